import PyProof.Rows.All
import Wide.All
import OpenK.AllK
import Wide.FinOn
import Lean
import PySem.Challenge.RW_sq0038_01
open PySem PySem.W PyProof.Rows PySem.Calls
set_option Elab.async false
set_option maxRecDepth 100000
set_option maxHeartbeats 4000000
set_option linter.unusedVariables false
set_option compiler.extract_closed false
namespace Mine
noncomputable abbrev pw : Program := PySem.Challenge.pw_sq0038_01
noncomputable abbrev nd (v : Obj) (l r : BT) : BT := BT.node v l r
noncomputable abbrev ke (P : Params) (x : Str) (t : Tok) (v : Value) : DictEntry := ⟨PyData.keyHash P x, .str x t, v⟩
noncomputable def pI (l : List Stmt) (n : Nat) : Stmt := l.getD n (.Pass default)
noncomputable def pD (l : List Stmt) (n : Nat) : List Stmt := l.drop n
noncomputable def pT (l : List Stmt) (n : Nat) : List Stmt := l.take n
noncomputable def pB : List Stmt := pw.main.body
noncomputable def fnA : Stmt → Arguments
  | .FunctionDef _ a .. => a
  | _ => default
noncomputable def fnB : Stmt → List Stmt
  | .FunctionDef _ _ b .. => b
  | _ => []
noncomputable def fnS : Stmt → Scope
  | .FunctionDef _ _ _ _ _ _ s .. => s
  | _ => default
noncomputable def clB : Stmt → List Stmt
  | .ClassDef _ _ _ b .. => b
  | _ => []
noncomputable def o0 (P : Params) : Obj := (Obj.mk (Value.type "code") none (Data.fields (List.toArray [(Value.str (Str.ofString "<module>") 182), (Value.str (Str.ofString "<module>") 183), (Value.str (Str.ofString "/claim/cut.py") 184), (Value.int 1 0), (Value.int 0 0), (Value.int 0 0), (Value.int 0 0), (Value.int 0 0), (Value.ref 11), (Value.bool false), (Value.int 181 0), (Value.ref 12), Value.none, Value.none, Value.none, Value.none, (Value.int 185 0), (Value.int 1 0), (Value.str (Str.ofString "/claim/cut.py") 186)])) (List.toArray []))
noncomputable def o1 (P : Params) : Obj := (Obj.mk (Value.type "frame") none Data.plain (List.toArray [(some (Value.ref 13)), (some (Value.ref 3)), (some (Value.ref 3)), none, (some (Value.str (Str.ofString "__main__") 164)), none, (some (Value.ref 0))]))
noncomputable def o2 (P : Params) : Obj := (Obj.mk (Value.type "dict") none (Data.dict (List.toArray [(ke P (Str.ofString "__name__") 165 (Value.str (Str.ofString "gluepage.errors") 194)), (ke P (Str.ofString "__doc__") 166 Value.none), (ke P (Str.ofString "__package__") 167 Value.none), (ke P (Str.ofString "__loader__") 168 (Value.builtin "__main__.__loader__#opaque")), (ke P (Str.ofString "__spec__") 169 Value.none), (ke P (Str.ofString "__annotations__") 170 (Value.ref 6)), (ke P (Str.ofString "__builtins__") 171 (Value.ref 4)), (ke P (Str.ofString "__file__") 173 (Value.str (Str.ofString "/claim/cut.py") 172)), (ke P (Str.ofString "__cached__") 174 Value.none), (ke P (Str.ofString "_wall") 193 (Value.ref 21)), (ke P (Str.ofString "PageError") 223 (Value.ref 39))]) 11) (List.toArray []))
noncomputable def o3 (P : Params) : Obj := (Obj.mk Value.none none (Data.fields (List.toArray [(Value.int 1 0), (Value.int 0 0), (Value.ref 20), (Value.int 5 0), (Value.int 0 0), (Value.ref 27)])) (List.toArray []))
noncomputable def o4 (P : Params) : Obj := (Obj.mk (Value.type "tuple") none (Data.seq (List.toArray [(Value.str (Str.ofString "k") 190)]) 0) (List.toArray []))
noncomputable def o5 (P : Params) : Obj := (Obj.mk Value.none none (Data.func (FuncData.mk (Str.ofString "_wall") (Str.ofString "_wall") (fnA (pI pB 0)) (.stmts (fnB (pI pB 0))) (fnS (pI pB 0)) 0 [] Value.none Value.none Value.none Value.none none Value.none Value.none 0)) (List.toArray []))
noncomputable def o6 (P : Params) : Obj := (Obj.mk (Value.type "code") none (Data.fields (List.toArray [(Value.str (Str.ofString "_wall") 187), (Value.str (Str.ofString "_wall") 188), (Value.str (Str.ofString "/claim/cut.py") 189), (Value.int 1 0), (Value.int 1 0), (Value.int 0 0), (Value.int 0 0), (Value.int 3 0), (Value.ref 15), (Value.bool true), (Value.int 181 0), (Value.ref 16), Value.none, (Value.ref 17), (Value.ref 18), (Value.ref 19), (Value.int 191 0), (Value.int 1 0), (Value.str (Str.ofString "/claim/cut.py") 192)])) (List.toArray []))
noncomputable def o7 (P : Params) : Obj := (Obj.mk (Value.type "function") none (Data.func (FuncData.mk (Str.ofString "_wall") (Str.ofString "_wall") (fnA (pI pB 0)) (.stmts (fnB (pI pB 0))) (fnS (pI pB 0)) 3 [] Value.none Value.none Value.none (Value.str (Str.ofString "__main__") 164) none (Value.ref 20) Value.none 0)) (List.toArray []))
noncomputable def o8 (P : Params) : Obj := (Obj.mk (Value.type "tuple") none (Data.seq (List.toArray [(Value.type "ValueError")]) 0) (List.toArray []))
noncomputable def o9 (P : Params) : Obj := (Obj.mk (Value.type "builtin_function_or_method") none (Data.fields (List.toArray [(Value.builtin "type.__prepare__"), (Value.type "type")])) (List.toArray []))
noncomputable def o10 (P : Params) : Obj := (Obj.mk (Value.type "dict") none (Data.dict (List.toArray [(ke P (Str.ofString "__module__") 203 (Value.str (Str.ofString "gluepage.errors") 194)), (ke P (Str.ofString "__qualname__") 205 (Value.str (Str.ofString "PageError") 204)), (ke P (Str.ofString "__firstlineno__") 207 (Value.int 5 206)), (ke P (Str.ofString "__init__") 216 (Value.ref 36)), (ke P (Str.ofString "__static_attributes__") 218 (Value.ref 37))]) 5) (List.toArray []))
noncomputable def o11 (P : Params) : Obj := (Obj.mk Value.none none (Data.fields (List.toArray [(Value.int 7 0), (Value.int 4 0), (Value.ref 35)])) (List.toArray []))
noncomputable def o12 (P : Params) : Obj := (Obj.mk (Value.type "code") none (Data.fields (List.toArray [(Value.str (Str.ofString "PageError") 198), (Value.str (Str.ofString "PageError") 199), (Value.str (Str.ofString "/claim/cut.py") 200), (Value.int 5 0), (Value.int 0 0), (Value.int 0 0), (Value.int 0 0), (Value.int 0 0), (Value.ref 25), (Value.bool false), (Value.int 181 0), (Value.ref 26), Value.none, Value.none, Value.none, Value.none, (Value.int 201 0), (Value.int 5 0), (Value.str (Str.ofString "/claim/cut.py") 202)])) (List.toArray []))
noncomputable def o13 (P : Params) : Obj := (Obj.mk (Value.type "frame") none Data.plain (List.toArray [(some (Value.ref 27)), (some (Value.ref 3)), (some (Value.ref 24)), none, (some (Value.str (Str.ofString "gluepage.errors") 194)), none, (some (Value.ref 0))]))
noncomputable def o14 (P : Params) : Obj := (Obj.mk (Value.type "tuple") none (Data.seq (List.toArray [(Value.str (Str.ofString "") 208)]) 0) (List.toArray []))
noncomputable def o15 (P : Params) : Obj := (Obj.mk (Value.type "tuple") none (Data.seq (List.toArray [(Value.str (Str.ofString "self") 212), (Value.str (Str.ofString "reason") 213)]) 0) (List.toArray []))
noncomputable def o16 (P : Params) : Obj := (Obj.mk Value.none none (Data.func (FuncData.mk (Str.ofString "__init__") (Str.ofString "PageError.__init__") (fnA (pI (clB (pI pB 2)) 0)) (.stmts (fnB (pI (clB (pI pB 2)) 0))) (fnS (pI (clB (pI pB 2)) 0)) 0 [] Value.none Value.none Value.none Value.none none Value.none Value.none 0)) (List.toArray []))
noncomputable def o17 (P : Params) : Obj := (Obj.mk (Value.type "code") none (Data.fields (List.toArray [(Value.str (Str.ofString "__init__") 209), (Value.str (Str.ofString "PageError.__init__") 210), (Value.str (Str.ofString "/claim/cut.py") 211), (Value.int 7 0), (Value.int 2 0), (Value.int 0 0), (Value.int 0 0), (Value.int 3 0), (Value.ref 30), (Value.bool true), (Value.int 181 0), (Value.ref 31), Value.none, (Value.ref 32), (Value.ref 33), (Value.ref 34), (Value.int 214 0), (Value.int 7 0), (Value.str (Str.ofString "/claim/cut.py") 215)])) (List.toArray []))
noncomputable def o18 (P : Params) : Obj := (Obj.mk (Value.type "function") none (Data.func (FuncData.mk (Str.ofString "__init__") (Str.ofString "PageError.__init__") (fnA (pI (clB (pI pB 2)) 0)) (.stmts (fnB (pI (clB (pI pB 2)) 0))) (fnS (pI (clB (pI pB 2)) 0)) 3 [] (Value.ref 29) Value.none Value.none (Value.str (Str.ofString "gluepage.errors") 194) none (Value.ref 35) Value.none 0)) (List.toArray []))
noncomputable def o19 (P : Params) : Obj := (Obj.mk (Value.type "tuple") none (Data.seq (List.toArray [(Value.str (Str.ofString "reason") 217)]) 0) (List.toArray []))
noncomputable def o20 (P : Params) : Obj := (Obj.mk (Value.type "dict") none (Data.dict (List.toArray [(ke P (Str.ofString "__module__") 203 (Value.str (Str.ofString "gluepage.errors") 194)), (ke P (Str.ofString "__firstlineno__") 207 (Value.int 5 206)), (ke P (Str.ofString "__init__") 216 (Value.ref 36)), (ke P (Str.ofString "__static_attributes__") 218 (Value.ref 37)), (ke P (Str.ofString "__weakref__") 220 (Value.ref 40)), (ke P (Str.ofString "__doc__") 221 Value.none)]) 3) (List.toArray []))
noncomputable def o21 (P : Params) : Obj := (Obj.mk (Value.type "type") none (Data.cls (ClassData.mk (Str.ofString "PageError") [(Value.type "ValueError")] [(Value.ref 39), (Value.type "ValueError"), (Value.type "Exception"), (Value.type "BaseException"), (Value.type "object")] 38 (Str.ofString "PageError") true [] [] false none false)) (List.toArray [(some (Value.ref 22)), none, (some (Value.str (Str.ofString "PageError") 196)), (some (Value.str (Str.ofString "PageError") 204)), (some (Value.builtin "ValueError.__new__")), (some (Value.bool true))]))
noncomputable def o22 (P : Params) : Obj := (Obj.mk (Value.type "getset_descriptor") none (Data.fields (List.toArray [(Value.str (Str.ofString "__weakref__") 219), (Value.ref 39), (Value.builtin "ExceptionGroup.__weakref__"), Value.none])) (List.toArray []))
noncomputable def o23 (P : Params) : Obj := (Obj.mk (Value.type "super") none (Data.fields (List.toArray [(Value.ref 39), (Value.ref 39), (Value.ref 39)])) (List.toArray []))
noncomputable def o24 (P : Params) : Obj := (Obj.mk (Value.type "builtin_function_or_method") none (Data.fields (List.toArray [(Value.builtin "object.__init_subclass__"), (Value.ref 39)])) (List.toArray []))
noncomputable def o25 (P : Params) : Obj := (Obj.mk (Value.type "dict") none (Data.dict (List.toArray [(ke P (Str.ofString "__name__") 165 (Value.str (Str.ofString "gluepage.errors") 194)), (ke P (Str.ofString "__doc__") 166 Value.none), (ke P (Str.ofString "__package__") 167 Value.none), (ke P (Str.ofString "__loader__") 168 (Value.builtin "__main__.__loader__#opaque")), (ke P (Str.ofString "__spec__") 169 Value.none), (ke P (Str.ofString "__annotations__") 170 (Value.ref 6)), (ke P (Str.ofString "__builtins__") 171 (Value.ref 4)), (ke P (Str.ofString "__file__") 173 (Value.str (Str.ofString "/claim/cut.py") 172)), (ke P (Str.ofString "__cached__") 174 Value.none), (ke P (Str.ofString "_wall") 193 (Value.ref 21)), (ke P (Str.ofString "PageError") 223 (Value.ref 39)), (ke P (Str.ofString "BadArgument") 239 (Value.ref 52))]) 12) (List.toArray []))
noncomputable def o26 (P : Params) : Obj := (Obj.mk Value.none none (Data.fields (List.toArray [(Value.int 1 0), (Value.int 0 0), (Value.ref 20), (Value.int 5 0), (Value.int 0 0), (Value.ref 27), (Value.int 9 0), (Value.int 0 0), (Value.ref 48)])) (List.toArray []))
noncomputable def o27 (P : Params) : Obj := (Obj.mk (Value.type "type") none (Data.cls (ClassData.mk (Str.ofString "PageError") [(Value.type "ValueError")] [(Value.ref 39), (Value.type "ValueError"), (Value.type "Exception"), (Value.type "BaseException"), (Value.type "object")] 38 (Str.ofString "PageError") true [] [(Value.ref 52)] false none false)) (List.toArray [(some (Value.ref 22)), none, (some (Value.str (Str.ofString "PageError") 196)), (some (Value.str (Str.ofString "PageError") 204)), (some (Value.builtin "ValueError.__new__")), (some (Value.bool true))]))
noncomputable def o28 (P : Params) : Obj := (Obj.mk (Value.type "tuple") none (Data.seq (List.toArray [(Value.ref 39)]) 0) (List.toArray []))
noncomputable def o29 (P : Params) : Obj := (Obj.mk (Value.type "dict") none (Data.dict (List.toArray [(ke P (Str.ofString "__module__") 231 (Value.str (Str.ofString "gluepage.errors") 194)), (ke P (Str.ofString "__qualname__") 233 (Value.str (Str.ofString "BadArgument") 232)), (ke P (Str.ofString "__firstlineno__") 235 (Value.int 9 234)), (ke P (Str.ofString "__static_attributes__") 236 (Value.ref 50))]) 4) (List.toArray []))
noncomputable def o30 (P : Params) : Obj := (Obj.mk (Value.type "code") none (Data.fields (List.toArray [(Value.str (Str.ofString "BadArgument") 226), (Value.str (Str.ofString "BadArgument") 227), (Value.str (Str.ofString "/claim/cut.py") 228), (Value.int 9 0), (Value.int 0 0), (Value.int 0 0), (Value.int 0 0), (Value.int 0 0), (Value.ref 46), (Value.bool false), (Value.int 181 0), (Value.ref 47), Value.none, Value.none, Value.none, Value.none, (Value.int 229 0), (Value.int 9 0), (Value.str (Str.ofString "/claim/cut.py") 230)])) (List.toArray []))
noncomputable def o31 (P : Params) : Obj := (Obj.mk (Value.type "frame") none Data.plain (List.toArray [(some (Value.ref 48)), (some (Value.ref 3)), (some (Value.ref 45)), none, (some (Value.str (Str.ofString "gluepage.errors") 194)), none, (some (Value.ref 0))]))
noncomputable def o32 (P : Params) : Obj := (Obj.mk (Value.type "dict") none (Data.dict (List.toArray [(ke P (Str.ofString "__module__") 231 (Value.str (Str.ofString "gluepage.errors") 194)), (ke P (Str.ofString "__firstlineno__") 235 (Value.int 9 234)), (ke P (Str.ofString "__static_attributes__") 236 (Value.ref 50)), (ke P (Str.ofString "__doc__") 237 Value.none)]) 2) (List.toArray []))
noncomputable def o33 (P : Params) : Obj := (Obj.mk (Value.type "type") none (Data.cls (ClassData.mk (Str.ofString "BadArgument") [(Value.ref 39)] [(Value.ref 52), (Value.ref 39), (Value.type "ValueError"), (Value.type "Exception"), (Value.type "BaseException"), (Value.type "object")] 51 (Str.ofString "BadArgument") true [] [] false none false)) (List.toArray [(some (Value.ref 43)), none, (some (Value.str (Str.ofString "BadArgument") 224)), (some (Value.str (Str.ofString "BadArgument") 232)), (some (Value.builtin "ValueError.__new__")), (some (Value.bool true))]))
noncomputable def o34 (P : Params) : Obj := (Obj.mk (Value.type "super") none (Data.fields (List.toArray [(Value.ref 52), (Value.ref 52), (Value.ref 52)])) (List.toArray []))
noncomputable def o35 (P : Params) : Obj := (Obj.mk (Value.type "builtin_function_or_method") none (Data.fields (List.toArray [(Value.builtin "object.__init_subclass__"), (Value.ref 52)])) (List.toArray []))
noncomputable def o36 (P : Params) : Obj := (Obj.mk (Value.type "dict") none (Data.dict (List.toArray [(ke P (Str.ofString "__name__") 165 (Value.str (Str.ofString "gluepage.errors") 194)), (ke P (Str.ofString "__doc__") 166 Value.none), (ke P (Str.ofString "__package__") 167 Value.none), (ke P (Str.ofString "__loader__") 168 (Value.builtin "__main__.__loader__#opaque")), (ke P (Str.ofString "__spec__") 169 Value.none), (ke P (Str.ofString "__annotations__") 170 (Value.ref 6)), (ke P (Str.ofString "__builtins__") 171 (Value.ref 4)), (ke P (Str.ofString "__file__") 173 (Value.str (Str.ofString "/claim/cut.py") 172)), (ke P (Str.ofString "__cached__") 174 Value.none), (ke P (Str.ofString "_wall") 193 (Value.ref 21)), (ke P (Str.ofString "PageError") 223 (Value.ref 39)), (ke P (Str.ofString "BadArgument") 239 (Value.ref 52)), (ke P (Str.ofString "Overflow") 255 (Value.ref 64))]) 13) (List.toArray []))
noncomputable def o37 (P : Params) : Obj := (Obj.mk Value.none none (Data.fields (List.toArray [(Value.int 1 0), (Value.int 0 0), (Value.ref 20), (Value.int 5 0), (Value.int 0 0), (Value.ref 27), (Value.int 9 0), (Value.int 0 0), (Value.ref 48), (Value.int 11 0), (Value.int 0 0), (Value.ref 60)])) (List.toArray []))
noncomputable def o38 (P : Params) : Obj := (Obj.mk (Value.type "type") none (Data.cls (ClassData.mk (Str.ofString "PageError") [(Value.type "ValueError")] [(Value.ref 39), (Value.type "ValueError"), (Value.type "Exception"), (Value.type "BaseException"), (Value.type "object")] 38 (Str.ofString "PageError") true [] [(Value.ref 52), (Value.ref 64)] false none false)) (List.toArray [(some (Value.ref 22)), none, (some (Value.str (Str.ofString "PageError") 196)), (some (Value.str (Str.ofString "PageError") 204)), (some (Value.builtin "ValueError.__new__")), (some (Value.bool true))]))
noncomputable def o39 (P : Params) : Obj := (Obj.mk (Value.type "dict") none (Data.dict (List.toArray [(ke P (Str.ofString "__module__") 247 (Value.str (Str.ofString "gluepage.errors") 194)), (ke P (Str.ofString "__qualname__") 249 (Value.str (Str.ofString "Overflow") 248)), (ke P (Str.ofString "__firstlineno__") 251 (Value.int 11 250)), (ke P (Str.ofString "__static_attributes__") 252 (Value.ref 62))]) 4) (List.toArray []))
noncomputable def o40 (P : Params) : Obj := (Obj.mk (Value.type "code") none (Data.fields (List.toArray [(Value.str (Str.ofString "Overflow") 242), (Value.str (Str.ofString "Overflow") 243), (Value.str (Str.ofString "/claim/cut.py") 244), (Value.int 11 0), (Value.int 0 0), (Value.int 0 0), (Value.int 0 0), (Value.int 0 0), (Value.ref 58), (Value.bool false), (Value.int 181 0), (Value.ref 59), Value.none, Value.none, Value.none, Value.none, (Value.int 245 0), (Value.int 11 0), (Value.str (Str.ofString "/claim/cut.py") 246)])) (List.toArray []))
noncomputable def o41 (P : Params) : Obj := (Obj.mk (Value.type "frame") none Data.plain (List.toArray [(some (Value.ref 60)), (some (Value.ref 3)), (some (Value.ref 57)), none, (some (Value.str (Str.ofString "gluepage.errors") 194)), none, (some (Value.ref 0))]))
noncomputable def o42 (P : Params) : Obj := (Obj.mk (Value.type "dict") none (Data.dict (List.toArray [(ke P (Str.ofString "__module__") 247 (Value.str (Str.ofString "gluepage.errors") 194)), (ke P (Str.ofString "__firstlineno__") 251 (Value.int 11 250)), (ke P (Str.ofString "__static_attributes__") 252 (Value.ref 62)), (ke P (Str.ofString "__doc__") 253 Value.none)]) 2) (List.toArray []))
noncomputable def o43 (P : Params) : Obj := (Obj.mk (Value.type "type") none (Data.cls (ClassData.mk (Str.ofString "Overflow") [(Value.ref 39)] [(Value.ref 64), (Value.ref 39), (Value.type "ValueError"), (Value.type "Exception"), (Value.type "BaseException"), (Value.type "object")] 63 (Str.ofString "Overflow") true [] [] false none false)) (List.toArray [(some (Value.ref 55)), none, (some (Value.str (Str.ofString "Overflow") 240)), (some (Value.str (Str.ofString "Overflow") 248)), (some (Value.builtin "ValueError.__new__")), (some (Value.bool true))]))
noncomputable def o44 (P : Params) : Obj := (Obj.mk (Value.type "super") none (Data.fields (List.toArray [(Value.ref 64), (Value.ref 64), (Value.ref 64)])) (List.toArray []))
noncomputable def o45 (P : Params) : Obj := (Obj.mk (Value.type "builtin_function_or_method") none (Data.fields (List.toArray [(Value.builtin "object.__init_subclass__"), (Value.ref 64)])) (List.toArray []))
noncomputable def o46 (P : Params) : Obj := (Obj.mk (Value.type "dict") none (Data.dict (List.toArray [(ke P (Str.ofString "__name__") 165 (Value.str (Str.ofString "gluepage.errors") 194)), (ke P (Str.ofString "__doc__") 166 Value.none), (ke P (Str.ofString "__package__") 167 Value.none), (ke P (Str.ofString "__loader__") 168 (Value.builtin "__main__.__loader__#opaque")), (ke P (Str.ofString "__spec__") 169 Value.none), (ke P (Str.ofString "__annotations__") 170 (Value.ref 6)), (ke P (Str.ofString "__builtins__") 171 (Value.ref 4)), (ke P (Str.ofString "__file__") 173 (Value.str (Str.ofString "/claim/cut.py") 172)), (ke P (Str.ofString "__cached__") 174 Value.none), (ke P (Str.ofString "_wall") 193 (Value.ref 21)), (ke P (Str.ofString "PageError") 223 (Value.ref 39)), (ke P (Str.ofString "BadArgument") 239 (Value.ref 52)), (ke P (Str.ofString "Overflow") 255 (Value.ref 64)), (ke P (Str.ofString "BadFont") 271 (Value.ref 76))]) 14) (List.toArray []))
noncomputable def o47 (P : Params) : Obj := (Obj.mk Value.none none (Data.fields (List.toArray [(Value.int 1 0), (Value.int 0 0), (Value.ref 20), (Value.int 5 0), (Value.int 0 0), (Value.ref 27), (Value.int 9 0), (Value.int 0 0), (Value.ref 48), (Value.int 11 0), (Value.int 0 0), (Value.ref 60), (Value.int 13 0), (Value.int 0 0), (Value.ref 72)])) (List.toArray []))
noncomputable def o48 (P : Params) : Obj := (Obj.mk (Value.type "type") none (Data.cls (ClassData.mk (Str.ofString "PageError") [(Value.type "ValueError")] [(Value.ref 39), (Value.type "ValueError"), (Value.type "Exception"), (Value.type "BaseException"), (Value.type "object")] 38 (Str.ofString "PageError") true [] [(Value.ref 52), (Value.ref 64), (Value.ref 76)] false none false)) (List.toArray [(some (Value.ref 22)), none, (some (Value.str (Str.ofString "PageError") 196)), (some (Value.str (Str.ofString "PageError") 204)), (some (Value.builtin "ValueError.__new__")), (some (Value.bool true))]))
noncomputable def o49 (P : Params) : Obj := (Obj.mk (Value.type "dict") none (Data.dict (List.toArray [(ke P (Str.ofString "__module__") 263 (Value.str (Str.ofString "gluepage.errors") 194)), (ke P (Str.ofString "__qualname__") 265 (Value.str (Str.ofString "BadFont") 264)), (ke P (Str.ofString "__firstlineno__") 267 (Value.int 13 266)), (ke P (Str.ofString "__static_attributes__") 268 (Value.ref 74))]) 4) (List.toArray []))
noncomputable def o50 (P : Params) : Obj := (Obj.mk (Value.type "code") none (Data.fields (List.toArray [(Value.str (Str.ofString "BadFont") 258), (Value.str (Str.ofString "BadFont") 259), (Value.str (Str.ofString "/claim/cut.py") 260), (Value.int 13 0), (Value.int 0 0), (Value.int 0 0), (Value.int 0 0), (Value.int 0 0), (Value.ref 70), (Value.bool false), (Value.int 181 0), (Value.ref 71), Value.none, Value.none, Value.none, Value.none, (Value.int 261 0), (Value.int 13 0), (Value.str (Str.ofString "/claim/cut.py") 262)])) (List.toArray []))
noncomputable def o51 (P : Params) : Obj := (Obj.mk (Value.type "frame") none Data.plain (List.toArray [(some (Value.ref 72)), (some (Value.ref 3)), (some (Value.ref 69)), none, (some (Value.str (Str.ofString "gluepage.errors") 194)), none, (some (Value.ref 0))]))
noncomputable def o52 (P : Params) : Obj := (Obj.mk (Value.type "dict") none (Data.dict (List.toArray [(ke P (Str.ofString "__module__") 263 (Value.str (Str.ofString "gluepage.errors") 194)), (ke P (Str.ofString "__firstlineno__") 267 (Value.int 13 266)), (ke P (Str.ofString "__static_attributes__") 268 (Value.ref 74)), (ke P (Str.ofString "__doc__") 269 Value.none)]) 2) (List.toArray []))
noncomputable def o53 (P : Params) : Obj := (Obj.mk (Value.type "type") none (Data.cls (ClassData.mk (Str.ofString "BadFont") [(Value.ref 39)] [(Value.ref 76), (Value.ref 39), (Value.type "ValueError"), (Value.type "Exception"), (Value.type "BaseException"), (Value.type "object")] 75 (Str.ofString "BadFont") true [] [] false none false)) (List.toArray [(some (Value.ref 67)), none, (some (Value.str (Str.ofString "BadFont") 256)), (some (Value.str (Str.ofString "BadFont") 264)), (some (Value.builtin "ValueError.__new__")), (some (Value.bool true))]))
noncomputable def o54 (P : Params) : Obj := (Obj.mk (Value.type "super") none (Data.fields (List.toArray [(Value.ref 76), (Value.ref 76), (Value.ref 76)])) (List.toArray []))
noncomputable def o55 (P : Params) : Obj := (Obj.mk (Value.type "builtin_function_or_method") none (Data.fields (List.toArray [(Value.builtin "object.__init_subclass__"), (Value.ref 76)])) (List.toArray []))
noncomputable def o56 (P : Params) : Obj := (Obj.mk (Value.type "dict") none (Data.dict (List.toArray [(ke P (Str.ofString "__name__") 165 (Value.str (Str.ofString "gluepage.fonts") 319)), (ke P (Str.ofString "__doc__") 166 Value.none), (ke P (Str.ofString "__package__") 167 Value.none), (ke P (Str.ofString "__loader__") 168 (Value.builtin "__main__.__loader__#opaque")), (ke P (Str.ofString "__spec__") 169 Value.none), (ke P (Str.ofString "__annotations__") 170 (Value.ref 6)), (ke P (Str.ofString "__builtins__") 171 (Value.ref 4)), (ke P (Str.ofString "__file__") 173 (Value.str (Str.ofString "/claim/cut.py") 172)), (ke P (Str.ofString "__cached__") 174 Value.none), (ke P (Str.ofString "_wall") 193 (Value.ref 21)), (ke P (Str.ofString "PageError") 223 (Value.ref 39)), (ke P (Str.ofString "BadArgument") 239 (Value.ref 52)), (ke P (Str.ofString "Overflow") 255 (Value.ref 64)), (ke P (Str.ofString "BadFont") 271 (Value.ref 76)), (ke P (Str.ofString "TooMuch") 287 (Value.ref 88)), (ke P (Str.ofString "MAX_DIMEN") 295 (Value.int 1073741823 294)), (ke P (Str.ofString "is_whole") 304 (Value.ref 97)), (ke P (Str.ofString "check_whole") 311 (Value.ref 104)), (ke P (Str.ofString "check_dimen") 318 (Value.ref 111)), (ke P (Str.ofString "EDGE") 322 (Value.int 256 321)), (ke P (Str.ofString "MOST_FONTS") 324 (Value.int 255 323)), (ke P (Str.ofString "MOST_PARAMS") 326 (Value.int 64 325)), (ke P (Str.ofString "MOST_SIZE") 332 (Value.int 134217727 331))]) 23) (List.toArray []))
noncomputable def o57 (P : Params) : Obj := (Obj.mk Value.none none (Data.fields (List.toArray [(Value.int 1 0), (Value.int 0 0), (Value.ref 20), (Value.int 5 0), (Value.int 0 0), (Value.ref 27), (Value.int 9 0), (Value.int 0 0), (Value.ref 48), (Value.int 11 0), (Value.int 0 0), (Value.ref 60), (Value.int 13 0), (Value.int 0 0), (Value.ref 72), (Value.int 15 0), (Value.int 0 0), (Value.ref 84), (Value.int 19 0), (Value.int 0 0), (Value.ref 96), (Value.int 21 0), (Value.int 0 0), (Value.ref 103), (Value.int 25 0), (Value.int 0 0), (Value.ref 110)])) (List.toArray []))
noncomputable def o58 (P : Params) : Obj := (Obj.mk (Value.type "type") none (Data.cls (ClassData.mk (Str.ofString "PageError") [(Value.type "ValueError")] [(Value.ref 39), (Value.type "ValueError"), (Value.type "Exception"), (Value.type "BaseException"), (Value.type "object")] 38 (Str.ofString "PageError") true [] [(Value.ref 52), (Value.ref 64), (Value.ref 76), (Value.ref 88)] false none false)) (List.toArray [(some (Value.ref 22)), none, (some (Value.str (Str.ofString "PageError") 196)), (some (Value.str (Str.ofString "PageError") 204)), (some (Value.builtin "ValueError.__new__")), (some (Value.bool true))]))
noncomputable def o59 (P : Params) : Obj := (Obj.mk (Value.type "dict") none (Data.dict (List.toArray [(ke P (Str.ofString "__module__") 279 (Value.str (Str.ofString "gluepage.errors") 194)), (ke P (Str.ofString "__qualname__") 281 (Value.str (Str.ofString "TooMuch") 280)), (ke P (Str.ofString "__firstlineno__") 283 (Value.int 15 282)), (ke P (Str.ofString "__static_attributes__") 284 (Value.ref 86))]) 4) (List.toArray []))
noncomputable def o60 (P : Params) : Obj := (Obj.mk (Value.type "code") none (Data.fields (List.toArray [(Value.str (Str.ofString "TooMuch") 274), (Value.str (Str.ofString "TooMuch") 275), (Value.str (Str.ofString "/claim/cut.py") 276), (Value.int 15 0), (Value.int 0 0), (Value.int 0 0), (Value.int 0 0), (Value.int 0 0), (Value.ref 82), (Value.bool false), (Value.int 181 0), (Value.ref 83), Value.none, Value.none, Value.none, Value.none, (Value.int 277 0), (Value.int 15 0), (Value.str (Str.ofString "/claim/cut.py") 278)])) (List.toArray []))
noncomputable def o61 (P : Params) : Obj := (Obj.mk (Value.type "frame") none Data.plain (List.toArray [(some (Value.ref 84)), (some (Value.ref 3)), (some (Value.ref 81)), none, (some (Value.str (Str.ofString "gluepage.errors") 194)), none, (some (Value.ref 0))]))
noncomputable def o62 (P : Params) : Obj := (Obj.mk (Value.type "dict") none (Data.dict (List.toArray [(ke P (Str.ofString "__module__") 279 (Value.str (Str.ofString "gluepage.errors") 194)), (ke P (Str.ofString "__firstlineno__") 283 (Value.int 15 282)), (ke P (Str.ofString "__static_attributes__") 284 (Value.ref 86)), (ke P (Str.ofString "__doc__") 285 Value.none)]) 2) (List.toArray []))
noncomputable def o63 (P : Params) : Obj := (Obj.mk (Value.type "type") none (Data.cls (ClassData.mk (Str.ofString "TooMuch") [(Value.ref 39)] [(Value.ref 88), (Value.ref 39), (Value.type "ValueError"), (Value.type "Exception"), (Value.type "BaseException"), (Value.type "object")] 87 (Str.ofString "TooMuch") true [] [] false none false)) (List.toArray [(some (Value.ref 79)), none, (some (Value.str (Str.ofString "TooMuch") 272)), (some (Value.str (Str.ofString "TooMuch") 280)), (some (Value.builtin "ValueError.__new__")), (some (Value.bool true))]))
noncomputable def o64 (P : Params) : Obj := (Obj.mk (Value.type "super") none (Data.fields (List.toArray [(Value.ref 88), (Value.ref 88), (Value.ref 88)])) (List.toArray []))
noncomputable def o65 (P : Params) : Obj := (Obj.mk (Value.type "builtin_function_or_method") none (Data.fields (List.toArray [(Value.builtin "object.__init_subclass__"), (Value.ref 88)])) (List.toArray []))
noncomputable def o66 (P : Params) : Obj := (Obj.mk (Value.type "tuple") none (Data.seq (List.toArray [(Value.str (Str.ofString "value") 299), (Value.str (Str.ofString "low") 300), (Value.str (Str.ofString "high") 301)]) 0) (List.toArray []))
noncomputable def o67 (P : Params) : Obj := (Obj.mk Value.none none (Data.func (FuncData.mk (Str.ofString "is_whole") (Str.ofString "is_whole") (fnA (pI pB 9)) (.stmts (fnB (pI pB 9))) (fnS (pI pB 9)) 0 [] Value.none Value.none Value.none Value.none none Value.none Value.none 0)) (List.toArray []))
noncomputable def o68 (P : Params) : Obj := (Obj.mk (Value.type "code") none (Data.fields (List.toArray [(Value.str (Str.ofString "is_whole") 296), (Value.str (Str.ofString "is_whole") 297), (Value.str (Str.ofString "/claim/cut.py") 298), (Value.int 19 0), (Value.int 3 0), (Value.int 0 0), (Value.int 0 0), (Value.int 3 0), (Value.ref 91), (Value.bool true), (Value.int 181 0), (Value.ref 92), Value.none, (Value.ref 93), (Value.ref 94), (Value.ref 95), (Value.int 302 0), (Value.int 19 0), (Value.str (Str.ofString "/claim/cut.py") 303)])) (List.toArray []))
noncomputable def o69 (P : Params) : Obj := (Obj.mk (Value.type "function") none (Data.func (FuncData.mk (Str.ofString "is_whole") (Str.ofString "is_whole") (fnA (pI pB 9)) (.stmts (fnB (pI pB 9))) (fnS (pI pB 9)) 3 [] Value.none Value.none Value.none (Value.str (Str.ofString "gluepage.scaled") 288) none (Value.ref 96) Value.none 0)) (List.toArray []))
noncomputable def o70 (P : Params) : Obj := (Obj.mk (Value.type "tuple") none (Data.seq (List.toArray [(Value.str (Str.ofString "value") 308)]) 0) (List.toArray []))
noncomputable def o71 (P : Params) : Obj := (Obj.mk Value.none none (Data.func (FuncData.mk (Str.ofString "check_whole") (Str.ofString "check_whole") (fnA (pI pB 10)) (.stmts (fnB (pI pB 10))) (fnS (pI pB 10)) 0 [] Value.none Value.none Value.none Value.none none Value.none Value.none 0)) (List.toArray []))
noncomputable def o72 (P : Params) : Obj := (Obj.mk (Value.type "code") none (Data.fields (List.toArray [(Value.str (Str.ofString "check_whole") 305), (Value.str (Str.ofString "check_whole") 306), (Value.str (Str.ofString "/claim/cut.py") 307), (Value.int 21 0), (Value.int 1 0), (Value.int 0 0), (Value.int 0 0), (Value.int 3 0), (Value.ref 98), (Value.bool true), (Value.int 181 0), (Value.ref 99), Value.none, (Value.ref 100), (Value.ref 101), (Value.ref 102), (Value.int 309 0), (Value.int 21 0), (Value.str (Str.ofString "/claim/cut.py") 310)])) (List.toArray []))
noncomputable def o73 (P : Params) : Obj := (Obj.mk (Value.type "function") none (Data.func (FuncData.mk (Str.ofString "check_whole") (Str.ofString "check_whole") (fnA (pI pB 10)) (.stmts (fnB (pI pB 10))) (fnS (pI pB 10)) 3 [] Value.none Value.none Value.none (Value.str (Str.ofString "gluepage.scaled") 288) none (Value.ref 103) Value.none 0)) (List.toArray []))
noncomputable def o74 (P : Params) : Obj := (Obj.mk (Value.type "tuple") none (Data.seq (List.toArray [(Value.str (Str.ofString "value") 315)]) 0) (List.toArray []))
noncomputable def o75 (P : Params) : Obj := (Obj.mk Value.none none (Data.func (FuncData.mk (Str.ofString "check_dimen") (Str.ofString "check_dimen") (fnA (pI pB 11)) (.stmts (fnB (pI pB 11))) (fnS (pI pB 11)) 0 [] Value.none Value.none Value.none Value.none none Value.none Value.none 0)) (List.toArray []))
noncomputable def o76 (P : Params) : Obj := (Obj.mk (Value.type "code") none (Data.fields (List.toArray [(Value.str (Str.ofString "check_dimen") 312), (Value.str (Str.ofString "check_dimen") 313), (Value.str (Str.ofString "/claim/cut.py") 314), (Value.int 25 0), (Value.int 1 0), (Value.int 0 0), (Value.int 0 0), (Value.int 3 0), (Value.ref 105), (Value.bool true), (Value.int 181 0), (Value.ref 106), Value.none, (Value.ref 107), (Value.ref 108), (Value.ref 109), (Value.int 316 0), (Value.int 25 0), (Value.str (Str.ofString "/claim/cut.py") 317)])) (List.toArray []))
noncomputable def o77 (P : Params) : Obj := (Obj.mk (Value.type "function") none (Data.func (FuncData.mk (Str.ofString "check_dimen") (Str.ofString "check_dimen") (fnA (pI pB 11)) (.stmts (fnB (pI pB 11))) (fnS (pI pB 11)) 3 [] Value.none Value.none Value.none (Value.str (Str.ofString "gluepage.scaled") 288) none (Value.ref 110) Value.none 0)) (List.toArray []))
noncomputable def o78 (P : Params) : Obj := (Obj.mk (Value.type "dict") none (Data.dict (List.toArray [(ke P (Str.ofString "__name__") 165 (Value.str (Str.ofString "gluepage.fonts") 319)), (ke P (Str.ofString "__doc__") 166 Value.none), (ke P (Str.ofString "__package__") 167 Value.none), (ke P (Str.ofString "__loader__") 168 (Value.builtin "__main__.__loader__#opaque")), (ke P (Str.ofString "__spec__") 169 Value.none), (ke P (Str.ofString "__annotations__") 170 (Value.ref 6)), (ke P (Str.ofString "__builtins__") 171 (Value.ref 4)), (ke P (Str.ofString "__file__") 173 (Value.str (Str.ofString "/claim/cut.py") 172)), (ke P (Str.ofString "__cached__") 174 Value.none), (ke P (Str.ofString "_wall") 193 (Value.ref 21)), (ke P (Str.ofString "PageError") 223 (Value.ref 39)), (ke P (Str.ofString "BadArgument") 239 (Value.ref 52)), (ke P (Str.ofString "Overflow") 255 (Value.ref 64)), (ke P (Str.ofString "BadFont") 271 (Value.ref 76)), (ke P (Str.ofString "TooMuch") 287 (Value.ref 88)), (ke P (Str.ofString "MAX_DIMEN") 295 (Value.int 1073741823 294)), (ke P (Str.ofString "is_whole") 304 (Value.ref 97)), (ke P (Str.ofString "check_whole") 311 (Value.ref 104)), (ke P (Str.ofString "check_dimen") 318 (Value.ref 111)), (ke P (Str.ofString "EDGE") 322 (Value.int 256 321)), (ke P (Str.ofString "MOST_FONTS") 324 (Value.int 255 323)), (ke P (Str.ofString "MOST_PARAMS") 326 (Value.int 64 325)), (ke P (Str.ofString "MOST_SIZE") 332 (Value.int 134217727 331)), (ke P (Str.ofString "PLAIN_SORT") 337 (Value.int 0 333)), (ke P (Str.ofString "PROGRAM_SORT") 338 (Value.int 1 334)), (ke P (Str.ofString "LARGER_SORT") 339 (Value.int 2 335)), (ke P (Str.ofString "PIECES_SORT") 340 (Value.int 3 336)), (ke P (Str.ofString "STOP_SKIP") 344 (Value.int 128 341)), (ke P (Str.ofString "KERN_OP") 345 (Value.int 128 342)), (ke P (Str.ofString "LEAD") 346 (Value.int 255 343)), (ke P (Str.ofString "NO_CHARACTER") 353 (Value.ref 120)), (ke P (Str.ofString "is_size") 360 (Value.ref 127)), (ke P (Str.ofString "check_sizes") 368 (Value.ref 134)), (ke P (Str.ofString "check_pieces") 378 (Value.ref 141)), (ke P (Str.ofString "check_chars") 390 (Value.ref 148)), (ke P (Str.ofString "check_larger") 400 (Value.ref 155)), (ke P (Str.ofString "check_program") 418 (Value.ref 162))]) 37) (List.toArray []))
noncomputable def o79 (P : Params) : Obj := (Obj.mk Value.none none (Data.fields (List.toArray [(Value.int 1 0), (Value.int 0 0), (Value.ref 20), (Value.int 5 0), (Value.int 0 0), (Value.ref 27), (Value.int 9 0), (Value.int 0 0), (Value.ref 48), (Value.int 11 0), (Value.int 0 0), (Value.ref 60), (Value.int 13 0), (Value.int 0 0), (Value.ref 72), (Value.int 15 0), (Value.int 0 0), (Value.ref 84), (Value.int 19 0), (Value.int 0 0), (Value.ref 96), (Value.int 21 0), (Value.int 0 0), (Value.ref 103), (Value.int 25 0), (Value.int 0 0), (Value.ref 110), (Value.int 37 0), (Value.int 0 0), (Value.ref 126), (Value.int 39 0), (Value.int 0 0), (Value.ref 133), (Value.int 43 0), (Value.int 0 0), (Value.ref 140), (Value.int 49 0), (Value.int 0 0), (Value.ref 147), (Value.int 61 0), (Value.int 0 0), (Value.ref 154), (Value.int 69 0), (Value.int 0 0), (Value.ref 161)])) (List.toArray []))
noncomputable def o80 (P : Params) : Obj := (Obj.mk (Value.type "tuple") none (Data.seq (List.toArray [(Value.int 0 333), (Value.int 1 334), (Value.int 2 335), (Value.int 3 336)]) 0) (List.toArray []))
noncomputable def o81 (P : Params) : Obj := (Obj.mk (Value.type "tuple_iterator") none (Data.fields (List.toArray [Value.none, (Value.int 4 0)])) (List.toArray []))
noncomputable def o82 (P : Params) : Obj := (Obj.mk (Value.type "StopIteration") none (Data.fields (List.toArray [(Value.ref 114), Value.none, Value.none, Value.none, (Value.bool false), Value.none])) (List.toArray []))
noncomputable def o83 (P : Params) : Obj := (Obj.mk (Value.type "tuple") none (Data.seq (List.toArray [(Value.int 128 341), (Value.int 128 342), (Value.int 255 343)]) 0) (List.toArray []))
noncomputable def o84 (P : Params) : Obj := (Obj.mk (Value.type "tuple_iterator") none (Data.fields (List.toArray [Value.none, (Value.int 3 0)])) (List.toArray []))
noncomputable def o85 (P : Params) : Obj := (Obj.mk (Value.type "StopIteration") none (Data.fields (List.toArray [(Value.ref 118), Value.none, Value.none, Value.none, (Value.bool false), Value.none])) (List.toArray []))
noncomputable def o86 (P : Params) : Obj := (Obj.mk (Value.type "tuple") none (Data.seq (List.toArray [(Value.int 0 347), (Value.int 0 348), (Value.int 0 349), (Value.int 0 350), (Value.int 0 351), (Value.int 0 352)]) 0) (List.toArray []))
noncomputable def o87 (P : Params) : Obj := (Obj.mk (Value.type "tuple") none (Data.seq (List.toArray [(Value.str (Str.ofString "value") 357)]) 0) (List.toArray []))
noncomputable def o88 (P : Params) : Obj := (Obj.mk Value.none none (Data.func (FuncData.mk (Str.ofString "is_size") (Str.ofString "is_size") (fnA (pI pB 20)) (.stmts (fnB (pI pB 20))) (fnS (pI pB 20)) 0 [] Value.none Value.none Value.none Value.none none Value.none Value.none 0)) (List.toArray []))
noncomputable def o89 (P : Params) : Obj := (Obj.mk (Value.type "code") none (Data.fields (List.toArray [(Value.str (Str.ofString "is_size") 354), (Value.str (Str.ofString "is_size") 355), (Value.str (Str.ofString "/claim/cut.py") 356), (Value.int 37 0), (Value.int 1 0), (Value.int 0 0), (Value.int 0 0), (Value.int 3 0), (Value.ref 121), (Value.bool true), (Value.int 181 0), (Value.ref 122), Value.none, (Value.ref 123), (Value.ref 124), (Value.ref 125), (Value.int 358 0), (Value.int 37 0), (Value.str (Str.ofString "/claim/cut.py") 359)])) (List.toArray []))
noncomputable def o90 (P : Params) : Obj := (Obj.mk (Value.type "function") none (Data.func (FuncData.mk (Str.ofString "is_size") (Str.ofString "is_size") (fnA (pI pB 20)) (.stmts (fnB (pI pB 20))) (fnS (pI pB 20)) 3 [] Value.none Value.none Value.none (Value.str (Str.ofString "gluepage.fonts") 319) none (Value.ref 126) Value.none 0)) (List.toArray []))
noncomputable def o91 (P : Params) : Obj := (Obj.mk (Value.type "tuple") none (Data.seq (List.toArray [(Value.str (Str.ofString "sizes") 364), (Value.str (Str.ofString "size") 365)]) 0) (List.toArray []))
noncomputable def o92 (P : Params) : Obj := (Obj.mk Value.none none (Data.func (FuncData.mk (Str.ofString "check_sizes") (Str.ofString "check_sizes") (fnA (pI pB 21)) (.stmts (fnB (pI pB 21))) (fnS (pI pB 21)) 0 [] Value.none Value.none Value.none Value.none none Value.none Value.none 0)) (List.toArray []))
noncomputable def o93 (P : Params) : Obj := (Obj.mk (Value.type "code") none (Data.fields (List.toArray [(Value.str (Str.ofString "check_sizes") 361), (Value.str (Str.ofString "check_sizes") 362), (Value.str (Str.ofString "/claim/cut.py") 363), (Value.int 39 0), (Value.int 1 0), (Value.int 0 0), (Value.int 0 0), (Value.int 3 0), (Value.ref 128), (Value.bool true), (Value.int 181 0), (Value.ref 129), Value.none, (Value.ref 130), (Value.ref 131), (Value.ref 132), (Value.int 366 0), (Value.int 39 0), (Value.str (Str.ofString "/claim/cut.py") 367)])) (List.toArray []))
noncomputable def o94 (P : Params) : Obj := (Obj.mk (Value.type "function") none (Data.func (FuncData.mk (Str.ofString "check_sizes") (Str.ofString "check_sizes") (fnA (pI pB 21)) (.stmts (fnB (pI pB 21))) (fnS (pI pB 21)) 3 [] Value.none Value.none Value.none (Value.str (Str.ofString "gluepage.fonts") 319) none (Value.ref 133) Value.none 0)) (List.toArray []))
noncomputable def o95 (P : Params) : Obj := (Obj.mk (Value.type "tuple") none (Data.seq (List.toArray [(Value.str (Str.ofString "pieces") 372), (Value.str (Str.ofString "chars") 373), (Value.str (Str.ofString "place") 374), (Value.str (Str.ofString "code") 375)]) 0) (List.toArray []))
noncomputable def o96 (P : Params) : Obj := (Obj.mk Value.none none (Data.func (FuncData.mk (Str.ofString "check_pieces") (Str.ofString "check_pieces") (fnA (pI pB 22)) (.stmts (fnB (pI pB 22))) (fnS (pI pB 22)) 0 [] Value.none Value.none Value.none Value.none none Value.none Value.none 0)) (List.toArray []))
noncomputable def o97 (P : Params) : Obj := (Obj.mk (Value.type "code") none (Data.fields (List.toArray [(Value.str (Str.ofString "check_pieces") 369), (Value.str (Str.ofString "check_pieces") 370), (Value.str (Str.ofString "/claim/cut.py") 371), (Value.int 43 0), (Value.int 2 0), (Value.int 0 0), (Value.int 0 0), (Value.int 3 0), (Value.ref 135), (Value.bool true), (Value.int 181 0), (Value.ref 136), Value.none, (Value.ref 137), (Value.ref 138), (Value.ref 139), (Value.int 376 0), (Value.int 43 0), (Value.str (Str.ofString "/claim/cut.py") 377)])) (List.toArray []))
noncomputable def o98 (P : Params) : Obj := (Obj.mk (Value.type "function") none (Data.func (FuncData.mk (Str.ofString "check_pieces") (Str.ofString "check_pieces") (fnA (pI pB 22)) (.stmts (fnB (pI pB 22))) (fnS (pI pB 22)) 3 [] Value.none Value.none Value.none (Value.str (Str.ofString "gluepage.fonts") 319) none (Value.ref 140) Value.none 0)) (List.toArray []))
noncomputable def o99 (P : Params) : Obj := (Obj.mk (Value.type "tuple") none (Data.seq (List.toArray [(Value.str (Str.ofString "chars") 382), (Value.str (Str.ofString "many") 383), (Value.str (Str.ofString "code") 384), (Value.str (Str.ofString "row") 385), (Value.str (Str.ofString "sort") 386), (Value.str (Str.ofString "rest") 387)]) 0) (List.toArray []))
noncomputable def o100 (P : Params) : Obj := (Obj.mk Value.none none (Data.func (FuncData.mk (Str.ofString "check_chars") (Str.ofString "check_chars") (fnA (pI pB 23)) (.stmts (fnB (pI pB 23))) (fnS (pI pB 23)) 0 [] Value.none Value.none Value.none Value.none none Value.none Value.none 0)) (List.toArray []))
noncomputable def o101 (P : Params) : Obj := (Obj.mk (Value.type "code") none (Data.fields (List.toArray [(Value.str (Str.ofString "check_chars") 379), (Value.str (Str.ofString "check_chars") 380), (Value.str (Str.ofString "/claim/cut.py") 381), (Value.int 49 0), (Value.int 2 0), (Value.int 0 0), (Value.int 0 0), (Value.int 3 0), (Value.ref 142), (Value.bool true), (Value.int 181 0), (Value.ref 143), Value.none, (Value.ref 144), (Value.ref 145), (Value.ref 146), (Value.int 388 0), (Value.int 49 0), (Value.str (Str.ofString "/claim/cut.py") 389)])) (List.toArray []))
noncomputable def o102 (P : Params) : Obj := (Obj.mk (Value.type "function") none (Data.func (FuncData.mk (Str.ofString "check_chars") (Str.ofString "check_chars") (fnA (pI pB 23)) (.stmts (fnB (pI pB 23))) (fnS (pI pB 23)) 3 [] Value.none Value.none Value.none (Value.str (Str.ofString "gluepage.fonts") 319) none (Value.ref 147) Value.none 0)) (List.toArray []))
noncomputable def o103 (P : Params) : Obj := (Obj.mk (Value.type "tuple") none (Data.seq (List.toArray [(Value.str (Str.ofString "chars") 394), (Value.str (Str.ofString "code") 395), (Value.str (Str.ofString "far") 396), (Value.str (Str.ofString "turns") 397)]) 0) (List.toArray []))
noncomputable def o104 (P : Params) : Obj := (Obj.mk Value.none none (Data.func (FuncData.mk (Str.ofString "check_larger") (Str.ofString "check_larger") (fnA (pI pB 24)) (.stmts (fnB (pI pB 24))) (fnS (pI pB 24)) 0 [] Value.none Value.none Value.none Value.none none Value.none Value.none 0)) (List.toArray []))
noncomputable def o105 (P : Params) : Obj := (Obj.mk (Value.type "code") none (Data.fields (List.toArray [(Value.str (Str.ofString "check_larger") 391), (Value.str (Str.ofString "check_larger") 392), (Value.str (Str.ofString "/claim/cut.py") 393), (Value.int 61 0), (Value.int 1 0), (Value.int 0 0), (Value.int 0 0), (Value.int 3 0), (Value.ref 149), (Value.bool true), (Value.int 181 0), (Value.ref 150), Value.none, (Value.ref 151), (Value.ref 152), (Value.ref 153), (Value.int 398 0), (Value.int 61 0), (Value.str (Str.ofString "/claim/cut.py") 399)])) (List.toArray []))
noncomputable def o106 (P : Params) : Obj := (Obj.mk (Value.type "function") none (Data.func (FuncData.mk (Str.ofString "check_larger") (Str.ofString "check_larger") (fnA (pI pB 24)) (.stmts (fnB (pI pB 24))) (fnS (pI pB 24)) 3 [] Value.none Value.none Value.none (Value.str (Str.ofString "gluepage.fonts") 319) none (Value.ref 154) Value.none 0)) (List.toArray []))
noncomputable def o107 (P : Params) : Obj := (Obj.mk (Value.type "tuple") none (Data.seq (List.toArray [(Value.str (Str.ofString "program") 404), (Value.str (Str.ofString "kerns") 405), (Value.str (Str.ofString "chars") 406), (Value.str (Str.ofString "boundary") 407), (Value.str (Str.ofString "many") 408), (Value.str (Str.ofString "place") 409), (Value.str (Str.ofString "row") 410), (Value.str (Str.ofString "octet") 411), (Value.str (Str.ofString "skip") 412), (Value.str (Str.ofString "following") 413), (Value.str (Str.ofString "op") 414), (Value.str (Str.ofString "rest") 415)]) 0) (List.toArray []))
noncomputable def o108 (P : Params) : Obj := (Obj.mk Value.none none (Data.func (FuncData.mk (Str.ofString "check_program") (Str.ofString "check_program") (fnA (pI pB 25)) (.stmts (fnB (pI pB 25))) (fnS (pI pB 25)) 0 [] Value.none Value.none Value.none Value.none none Value.none Value.none 0)) (List.toArray []))
noncomputable def o109 (P : Params) : Obj := (Obj.mk (Value.type "code") none (Data.fields (List.toArray [(Value.str (Str.ofString "check_program") 401), (Value.str (Str.ofString "check_program") 402), (Value.str (Str.ofString "/claim/cut.py") 403), (Value.int 69 0), (Value.int 4 0), (Value.int 0 0), (Value.int 0 0), (Value.int 3 0), (Value.ref 156), (Value.bool true), (Value.int 181 0), (Value.ref 157), Value.none, (Value.ref 158), (Value.ref 159), (Value.ref 160), (Value.int 416 0), (Value.int 69 0), (Value.str (Str.ofString "/claim/cut.py") 417)])) (List.toArray []))
noncomputable def o110 (P : Params) : Obj := (Obj.mk (Value.type "function") none (Data.func (FuncData.mk (Str.ofString "check_program") (Str.ofString "check_program") (fnA (pI pB 25)) (.stmts (fnB (pI pB 25))) (fnS (pI pB 25)) 3 [] Value.none Value.none Value.none (Value.str (Str.ofString "gluepage.fonts") 319) none (Value.ref 161) Value.none 0)) (List.toArray []))
noncomputable def o111 (P : Params) : Obj := (Obj.mk (Value.type "dict") none (Data.dict (List.toArray [(ke P (Str.ofString "__name__") 165 (Value.str (Str.ofString "gluepage.fonts") 319)), (ke P (Str.ofString "__doc__") 166 Value.none), (ke P (Str.ofString "__package__") 167 Value.none), (ke P (Str.ofString "__loader__") 168 (Value.builtin "__main__.__loader__#opaque")), (ke P (Str.ofString "__spec__") 169 Value.none), (ke P (Str.ofString "__annotations__") 170 (Value.ref 6)), (ke P (Str.ofString "__builtins__") 171 (Value.ref 4)), (ke P (Str.ofString "__file__") 173 (Value.str (Str.ofString "/claim/cut.py") 172)), (ke P (Str.ofString "__cached__") 174 Value.none), (ke P (Str.ofString "_wall") 193 (Value.ref 21)), (ke P (Str.ofString "PageError") 223 (Value.ref 39)), (ke P (Str.ofString "BadArgument") 239 (Value.ref 52)), (ke P (Str.ofString "Overflow") 255 (Value.ref 64)), (ke P (Str.ofString "BadFont") 271 (Value.ref 76)), (ke P (Str.ofString "TooMuch") 287 (Value.ref 88)), (ke P (Str.ofString "MAX_DIMEN") 295 (Value.int 1073741823 294)), (ke P (Str.ofString "is_whole") 304 (Value.ref 97)), (ke P (Str.ofString "check_whole") 311 (Value.ref 104)), (ke P (Str.ofString "check_dimen") 318 (Value.ref 111)), (ke P (Str.ofString "EDGE") 322 (Value.int 256 321)), (ke P (Str.ofString "MOST_FONTS") 324 (Value.int 255 323)), (ke P (Str.ofString "MOST_PARAMS") 326 (Value.int 64 325)), (ke P (Str.ofString "MOST_SIZE") 332 (Value.int 134217727 331)), (ke P (Str.ofString "PLAIN_SORT") 337 (Value.int 0 333)), (ke P (Str.ofString "PROGRAM_SORT") 338 (Value.int 1 334)), (ke P (Str.ofString "LARGER_SORT") 339 (Value.int 2 335)), (ke P (Str.ofString "PIECES_SORT") 340 (Value.int 3 336)), (ke P (Str.ofString "STOP_SKIP") 344 (Value.int 128 341)), (ke P (Str.ofString "KERN_OP") 345 (Value.int 128 342)), (ke P (Str.ofString "LEAD") 346 (Value.int 255 343)), (ke P (Str.ofString "NO_CHARACTER") 353 (Value.ref 120)), (ke P (Str.ofString "is_size") 360 (Value.ref 127)), (ke P (Str.ofString "check_sizes") 368 (Value.ref 134)), (ke P (Str.ofString "check_pieces") 378 (Value.ref 141)), (ke P (Str.ofString "check_chars") 390 (Value.ref 148)), (ke P (Str.ofString "check_larger") 400 (Value.ref 155)), (ke P (Str.ofString "check_program") 418 (Value.ref 162)), (ke P (Str.ofString "left_start") 429 (Value.ref 169))]) 38) (List.toArray []))
noncomputable def o112 (P : Params) : Obj := (Obj.mk Value.none none (Data.fields (List.toArray [(Value.int 1 0), (Value.int 0 0), (Value.ref 20), (Value.int 5 0), (Value.int 0 0), (Value.ref 27), (Value.int 9 0), (Value.int 0 0), (Value.ref 48), (Value.int 11 0), (Value.int 0 0), (Value.ref 60), (Value.int 13 0), (Value.int 0 0), (Value.ref 72), (Value.int 15 0), (Value.int 0 0), (Value.ref 84), (Value.int 19 0), (Value.int 0 0), (Value.ref 96), (Value.int 21 0), (Value.int 0 0), (Value.ref 103), (Value.int 25 0), (Value.int 0 0), (Value.ref 110), (Value.int 37 0), (Value.int 0 0), (Value.ref 126), (Value.int 39 0), (Value.int 0 0), (Value.ref 133), (Value.int 43 0), (Value.int 0 0), (Value.ref 140), (Value.int 49 0), (Value.int 0 0), (Value.ref 147), (Value.int 61 0), (Value.int 0 0), (Value.ref 154), (Value.int 69 0), (Value.int 0 0), (Value.ref 161), (Value.int 88 0), (Value.int 0 0), (Value.ref 168)])) (List.toArray []))
noncomputable def o113 (P : Params) : Obj := (Obj.mk (Value.type "tuple") none (Data.seq (List.toArray [(Value.str (Str.ofString "program") 422), (Value.str (Str.ofString "skip") 423), (Value.str (Str.ofString "following") 424), (Value.str (Str.ofString "op") 425), (Value.str (Str.ofString "rest") 426)]) 0) (List.toArray []))
noncomputable def o114 (P : Params) : Obj := (Obj.mk Value.none none (Data.func (FuncData.mk (Str.ofString "left_start") (Str.ofString "left_start") (fnA (pI pB 26)) (.stmts (fnB (pI pB 26))) (fnS (pI pB 26)) 0 [] Value.none Value.none Value.none Value.none none Value.none Value.none 0)) (List.toArray []))
noncomputable def o115 (P : Params) : Obj := (Obj.mk (Value.type "code") none (Data.fields (List.toArray [(Value.str (Str.ofString "left_start") 419), (Value.str (Str.ofString "left_start") 420), (Value.str (Str.ofString "/claim/cut.py") 421), (Value.int 88 0), (Value.int 1 0), (Value.int 0 0), (Value.int 0 0), (Value.int 3 0), (Value.ref 163), (Value.bool true), (Value.int 181 0), (Value.ref 164), Value.none, (Value.ref 165), (Value.ref 166), (Value.ref 167), (Value.int 427 0), (Value.int 88 0), (Value.str (Str.ofString "/claim/cut.py") 428)])) (List.toArray []))
noncomputable def o116 (P : Params) : Obj := (Obj.mk (Value.type "function") none (Data.func (FuncData.mk (Str.ofString "left_start") (Str.ofString "left_start") (fnA (pI pB 26)) (.stmts (fnB (pI pB 26))) (fnS (pI pB 26)) 3 [] Value.none Value.none Value.none (Value.str (Str.ofString "gluepage.fonts") 319) none (Value.ref 168) Value.none 0)) (List.toArray []))
noncomputable def o117 (P : Params) : Obj := (Obj.mk (Value.type "dict") none (Data.dict (List.toArray [(ke P (Str.ofString "__name__") 165 (Value.str (Str.ofString "gluepage.fonts") 319)), (ke P (Str.ofString "__doc__") 166 Value.none), (ke P (Str.ofString "__package__") 167 Value.none), (ke P (Str.ofString "__loader__") 168 (Value.builtin "__main__.__loader__#opaque")), (ke P (Str.ofString "__spec__") 169 Value.none), (ke P (Str.ofString "__annotations__") 170 (Value.ref 6)), (ke P (Str.ofString "__builtins__") 171 (Value.ref 4)), (ke P (Str.ofString "__file__") 173 (Value.str (Str.ofString "/claim/cut.py") 172)), (ke P (Str.ofString "__cached__") 174 Value.none), (ke P (Str.ofString "_wall") 193 (Value.ref 21)), (ke P (Str.ofString "PageError") 223 (Value.ref 39)), (ke P (Str.ofString "BadArgument") 239 (Value.ref 52)), (ke P (Str.ofString "Overflow") 255 (Value.ref 64)), (ke P (Str.ofString "BadFont") 271 (Value.ref 76)), (ke P (Str.ofString "TooMuch") 287 (Value.ref 88)), (ke P (Str.ofString "MAX_DIMEN") 295 (Value.int 1073741823 294)), (ke P (Str.ofString "is_whole") 304 (Value.ref 97)), (ke P (Str.ofString "check_whole") 311 (Value.ref 104)), (ke P (Str.ofString "check_dimen") 318 (Value.ref 111)), (ke P (Str.ofString "EDGE") 322 (Value.int 256 321)), (ke P (Str.ofString "MOST_FONTS") 324 (Value.int 255 323)), (ke P (Str.ofString "MOST_PARAMS") 326 (Value.int 64 325)), (ke P (Str.ofString "MOST_SIZE") 332 (Value.int 134217727 331)), (ke P (Str.ofString "PLAIN_SORT") 337 (Value.int 0 333)), (ke P (Str.ofString "PROGRAM_SORT") 338 (Value.int 1 334)), (ke P (Str.ofString "LARGER_SORT") 339 (Value.int 2 335)), (ke P (Str.ofString "PIECES_SORT") 340 (Value.int 3 336)), (ke P (Str.ofString "STOP_SKIP") 344 (Value.int 128 341)), (ke P (Str.ofString "KERN_OP") 345 (Value.int 128 342)), (ke P (Str.ofString "LEAD") 346 (Value.int 255 343)), (ke P (Str.ofString "NO_CHARACTER") 353 (Value.ref 120)), (ke P (Str.ofString "is_size") 360 (Value.ref 127)), (ke P (Str.ofString "check_sizes") 368 (Value.ref 134)), (ke P (Str.ofString "check_pieces") 378 (Value.ref 141)), (ke P (Str.ofString "check_chars") 390 (Value.ref 148)), (ke P (Str.ofString "check_larger") 400 (Value.ref 155)), (ke P (Str.ofString "check_program") 418 (Value.ref 162)), (ke P (Str.ofString "left_start") 429 (Value.ref 169)), (ke P (Str.ofString "Font") 561 (Value.ref 259))]) 39) (List.toArray []))
noncomputable def o118 (P : Params) : Obj := (Obj.mk Value.none none (Data.fields (List.toArray [(Value.int 1 0), (Value.int 0 0), (Value.ref 20), (Value.int 5 0), (Value.int 0 0), (Value.ref 27), (Value.int 9 0), (Value.int 0 0), (Value.ref 48), (Value.int 11 0), (Value.int 0 0), (Value.ref 60), (Value.int 13 0), (Value.int 0 0), (Value.ref 72), (Value.int 15 0), (Value.int 0 0), (Value.ref 84), (Value.int 19 0), (Value.int 0 0), (Value.ref 96), (Value.int 21 0), (Value.int 0 0), (Value.ref 103), (Value.int 25 0), (Value.int 0 0), (Value.ref 110), (Value.int 37 0), (Value.int 0 0), (Value.ref 126), (Value.int 39 0), (Value.int 0 0), (Value.ref 133), (Value.int 43 0), (Value.int 0 0), (Value.ref 140), (Value.int 49 0), (Value.int 0 0), (Value.ref 147), (Value.int 61 0), (Value.int 0 0), (Value.ref 154), (Value.int 69 0), (Value.int 0 0), (Value.ref 161), (Value.int 88 0), (Value.int 0 0), (Value.ref 168), (Value.int 93 0), (Value.int 0 0), (Value.ref 175)])) (List.toArray []))
noncomputable def o119 (P : Params) : Obj := (Obj.mk (Value.type "dict") none (Data.dict (List.toArray [(ke P (Str.ofString "__module__") 437 (Value.str (Str.ofString "gluepage.fonts") 319)), (ke P (Str.ofString "__qualname__") 439 (Value.str (Str.ofString "Font") 438)), (ke P (Str.ofString "__firstlineno__") 441 (Value.int 93 440)), (ke P (Str.ofString "__init__") 456 (Value.ref 186)), (ke P (Str.ofString "has") 464 (Value.ref 193)), (ke P (Str.ofString "width") 472 (Value.ref 200)), (ke P (Str.ofString "height") 480 (Value.ref 207)), (ke P (Str.ofString "depth") 488 (Value.ref 214)), (ke P (Str.ofString "italic") 496 (Value.ref 221)), (ke P (Str.ofString "starts") 505 (Value.ref 228)), (ke P (Str.ofString "larger") 514 (Value.ref 235)), (ke P (Str.ofString "pieces") 523 (Value.ref 242)), (ke P (Str.ofString "param") 531 (Value.ref 249)), (ke P (Str.ofString "set_param") 540 (Value.ref 256)), (ke P (Str.ofString "__static_attributes__") 554 (Value.ref 257))]) 15) (List.toArray []))
noncomputable def o120 (P : Params) : Obj := (Obj.mk Value.none none (Data.fields (List.toArray [(Value.int 95 0), (Value.int 4 0), (Value.ref 185), (Value.int 119 0), (Value.int 4 0), (Value.ref 192), (Value.int 122 0), (Value.int 4 0), (Value.ref 199), (Value.int 125 0), (Value.int 4 0), (Value.ref 206), (Value.int 128 0), (Value.int 4 0), (Value.ref 213), (Value.int 131 0), (Value.int 4 0), (Value.ref 220), (Value.int 134 0), (Value.int 4 0), (Value.ref 227), (Value.int 140 0), (Value.int 4 0), (Value.ref 234), (Value.int 144 0), (Value.int 4 0), (Value.ref 241), (Value.int 148 0), (Value.int 4 0), (Value.ref 248), (Value.int 151 0), (Value.int 4 0), (Value.ref 255)])) (List.toArray []))
noncomputable def o121 (P : Params) : Obj := (Obj.mk (Value.type "code") none (Data.fields (List.toArray [(Value.str (Str.ofString "Font") 432), (Value.str (Str.ofString "Font") 433), (Value.str (Str.ofString "/claim/cut.py") 434), (Value.int 93 0), (Value.int 0 0), (Value.int 0 0), (Value.int 0 0), (Value.int 0 0), (Value.ref 173), (Value.bool false), (Value.int 181 0), (Value.ref 174), Value.none, Value.none, Value.none, Value.none, (Value.int 435 0), (Value.int 93 0), (Value.str (Str.ofString "/claim/cut.py") 436)])) (List.toArray []))
noncomputable def o122 (P : Params) : Obj := (Obj.mk (Value.type "frame") none Data.plain (List.toArray [(some (Value.ref 175)), (some (Value.ref 3)), (some (Value.ref 172)), none, (some (Value.str (Str.ofString "gluepage.fonts") 319)), none, (some (Value.ref 0))]))
noncomputable def o123 (P : Params) : Obj := (Obj.mk (Value.type "tuple") none (Data.seq (List.toArray [(Value.ref 177), (Value.ref 178), (Value.int 256 321)]) 0) (List.toArray []))
noncomputable def o124 (P : Params) : Obj := (Obj.mk (Value.type "tuple") none (Data.seq (List.toArray [(Value.str (Str.ofString "self") 445), (Value.str (Str.ofString "number") 446), (Value.str (Str.ofString "name") 447), (Value.str (Str.ofString "size") 448), (Value.str (Str.ofString "params") 449), (Value.str (Str.ofString "chars") 450), (Value.str (Str.ofString "program") 451), (Value.str (Str.ofString "kerns") 452), (Value.str (Str.ofString "boundary") 453)]) 0) (List.toArray []))
noncomputable def o125 (P : Params) : Obj := (Obj.mk Value.none none (Data.func (FuncData.mk (Str.ofString "__init__") (Str.ofString "Font.__init__") (fnA (pI (clB (pI pB 27)) 0)) (.stmts (fnB (pI (clB (pI pB 27)) 0))) (fnS (pI (clB (pI pB 27)) 0)) 0 [] Value.none Value.none Value.none Value.none none Value.none Value.none 0)) (List.toArray []))
noncomputable def o126 (P : Params) : Obj := (Obj.mk (Value.type "code") none (Data.fields (List.toArray [(Value.str (Str.ofString "__init__") 442), (Value.str (Str.ofString "Font.__init__") 443), (Value.str (Str.ofString "/claim/cut.py") 444), (Value.int 95 0), (Value.int 9 0), (Value.int 0 0), (Value.int 0 0), (Value.int 3 0), (Value.ref 180), (Value.bool true), (Value.int 181 0), (Value.ref 181), Value.none, (Value.ref 182), (Value.ref 183), (Value.ref 184), (Value.int 454 0), (Value.int 95 0), (Value.str (Str.ofString "/claim/cut.py") 455)])) (List.toArray []))
noncomputable def o127 (P : Params) : Obj := (Obj.mk (Value.type "function") none (Data.func (FuncData.mk (Str.ofString "__init__") (Str.ofString "Font.__init__") (fnA (pI (clB (pI pB 27)) 0)) (.stmts (fnB (pI (clB (pI pB 27)) 0))) (fnS (pI (clB (pI pB 27)) 0)) 3 [] (Value.ref 179) Value.none Value.none (Value.str (Str.ofString "gluepage.fonts") 319) none (Value.ref 185) Value.none 0)) (List.toArray []))
noncomputable def o128 (P : Params) : Obj := (Obj.mk (Value.type "tuple") none (Data.seq (List.toArray [(Value.str (Str.ofString "self") 460), (Value.str (Str.ofString "code") 461)]) 0) (List.toArray []))
noncomputable def o129 (P : Params) : Obj := (Obj.mk Value.none none (Data.func (FuncData.mk (Str.ofString "has") (Str.ofString "Font.has") (fnA (pI (clB (pI pB 27)) 1)) (.stmts (fnB (pI (clB (pI pB 27)) 1))) (fnS (pI (clB (pI pB 27)) 1)) 0 [] Value.none Value.none Value.none Value.none none Value.none Value.none 0)) (List.toArray []))
noncomputable def o130 (P : Params) : Obj := (Obj.mk (Value.type "code") none (Data.fields (List.toArray [(Value.str (Str.ofString "has") 457), (Value.str (Str.ofString "Font.has") 458), (Value.str (Str.ofString "/claim/cut.py") 459), (Value.int 119 0), (Value.int 2 0), (Value.int 0 0), (Value.int 0 0), (Value.int 3 0), (Value.ref 187), (Value.bool true), (Value.int 181 0), (Value.ref 188), Value.none, (Value.ref 189), (Value.ref 190), (Value.ref 191), (Value.int 462 0), (Value.int 119 0), (Value.str (Str.ofString "/claim/cut.py") 463)])) (List.toArray []))
noncomputable def o131 (P : Params) : Obj := (Obj.mk (Value.type "function") none (Data.func (FuncData.mk (Str.ofString "has") (Str.ofString "Font.has") (fnA (pI (clB (pI pB 27)) 1)) (.stmts (fnB (pI (clB (pI pB 27)) 1))) (fnS (pI (clB (pI pB 27)) 1)) 3 [] Value.none Value.none Value.none (Value.str (Str.ofString "gluepage.fonts") 319) none (Value.ref 192) Value.none 0)) (List.toArray []))
noncomputable def o132 (P : Params) : Obj := (Obj.mk (Value.type "tuple") none (Data.seq (List.toArray [(Value.str (Str.ofString "self") 468), (Value.str (Str.ofString "code") 469)]) 0) (List.toArray []))
noncomputable def o133 (P : Params) : Obj := (Obj.mk Value.none none (Data.func (FuncData.mk (Str.ofString "width") (Str.ofString "Font.width") (fnA (pI (clB (pI pB 27)) 2)) (.stmts (fnB (pI (clB (pI pB 27)) 2))) (fnS (pI (clB (pI pB 27)) 2)) 0 [] Value.none Value.none Value.none Value.none none Value.none Value.none 0)) (List.toArray []))
noncomputable def o134 (P : Params) : Obj := (Obj.mk (Value.type "code") none (Data.fields (List.toArray [(Value.str (Str.ofString "width") 465), (Value.str (Str.ofString "Font.width") 466), (Value.str (Str.ofString "/claim/cut.py") 467), (Value.int 122 0), (Value.int 2 0), (Value.int 0 0), (Value.int 0 0), (Value.int 3 0), (Value.ref 194), (Value.bool true), (Value.int 181 0), (Value.ref 195), Value.none, (Value.ref 196), (Value.ref 197), (Value.ref 198), (Value.int 470 0), (Value.int 122 0), (Value.str (Str.ofString "/claim/cut.py") 471)])) (List.toArray []))
noncomputable def o135 (P : Params) : Obj := (Obj.mk (Value.type "function") none (Data.func (FuncData.mk (Str.ofString "width") (Str.ofString "Font.width") (fnA (pI (clB (pI pB 27)) 2)) (.stmts (fnB (pI (clB (pI pB 27)) 2))) (fnS (pI (clB (pI pB 27)) 2)) 3 [] Value.none Value.none Value.none (Value.str (Str.ofString "gluepage.fonts") 319) none (Value.ref 199) Value.none 0)) (List.toArray []))
noncomputable def o136 (P : Params) : Obj := (Obj.mk (Value.type "tuple") none (Data.seq (List.toArray [(Value.str (Str.ofString "self") 476), (Value.str (Str.ofString "code") 477)]) 0) (List.toArray []))
noncomputable def o137 (P : Params) : Obj := (Obj.mk Value.none none (Data.func (FuncData.mk (Str.ofString "height") (Str.ofString "Font.height") (fnA (pI (clB (pI pB 27)) 3)) (.stmts (fnB (pI (clB (pI pB 27)) 3))) (fnS (pI (clB (pI pB 27)) 3)) 0 [] Value.none Value.none Value.none Value.none none Value.none Value.none 0)) (List.toArray []))
noncomputable def o138 (P : Params) : Obj := (Obj.mk (Value.type "code") none (Data.fields (List.toArray [(Value.str (Str.ofString "height") 473), (Value.str (Str.ofString "Font.height") 474), (Value.str (Str.ofString "/claim/cut.py") 475), (Value.int 125 0), (Value.int 2 0), (Value.int 0 0), (Value.int 0 0), (Value.int 3 0), (Value.ref 201), (Value.bool true), (Value.int 181 0), (Value.ref 202), Value.none, (Value.ref 203), (Value.ref 204), (Value.ref 205), (Value.int 478 0), (Value.int 125 0), (Value.str (Str.ofString "/claim/cut.py") 479)])) (List.toArray []))
noncomputable def o139 (P : Params) : Obj := (Obj.mk (Value.type "function") none (Data.func (FuncData.mk (Str.ofString "height") (Str.ofString "Font.height") (fnA (pI (clB (pI pB 27)) 3)) (.stmts (fnB (pI (clB (pI pB 27)) 3))) (fnS (pI (clB (pI pB 27)) 3)) 3 [] Value.none Value.none Value.none (Value.str (Str.ofString "gluepage.fonts") 319) none (Value.ref 206) Value.none 0)) (List.toArray []))
noncomputable def o140 (P : Params) : Obj := (Obj.mk (Value.type "tuple") none (Data.seq (List.toArray [(Value.str (Str.ofString "self") 484), (Value.str (Str.ofString "code") 485)]) 0) (List.toArray []))
noncomputable def o141 (P : Params) : Obj := (Obj.mk Value.none none (Data.func (FuncData.mk (Str.ofString "depth") (Str.ofString "Font.depth") (fnA (pI (clB (pI pB 27)) 4)) (.stmts (fnB (pI (clB (pI pB 27)) 4))) (fnS (pI (clB (pI pB 27)) 4)) 0 [] Value.none Value.none Value.none Value.none none Value.none Value.none 0)) (List.toArray []))
noncomputable def o142 (P : Params) : Obj := (Obj.mk (Value.type "code") none (Data.fields (List.toArray [(Value.str (Str.ofString "depth") 481), (Value.str (Str.ofString "Font.depth") 482), (Value.str (Str.ofString "/claim/cut.py") 483), (Value.int 128 0), (Value.int 2 0), (Value.int 0 0), (Value.int 0 0), (Value.int 3 0), (Value.ref 208), (Value.bool true), (Value.int 181 0), (Value.ref 209), Value.none, (Value.ref 210), (Value.ref 211), (Value.ref 212), (Value.int 486 0), (Value.int 128 0), (Value.str (Str.ofString "/claim/cut.py") 487)])) (List.toArray []))
noncomputable def o143 (P : Params) : Obj := (Obj.mk (Value.type "function") none (Data.func (FuncData.mk (Str.ofString "depth") (Str.ofString "Font.depth") (fnA (pI (clB (pI pB 27)) 4)) (.stmts (fnB (pI (clB (pI pB 27)) 4))) (fnS (pI (clB (pI pB 27)) 4)) 3 [] Value.none Value.none Value.none (Value.str (Str.ofString "gluepage.fonts") 319) none (Value.ref 213) Value.none 0)) (List.toArray []))
noncomputable def o144 (P : Params) : Obj := (Obj.mk (Value.type "tuple") none (Data.seq (List.toArray [(Value.str (Str.ofString "self") 492), (Value.str (Str.ofString "code") 493)]) 0) (List.toArray []))
noncomputable def o145 (P : Params) : Obj := (Obj.mk Value.none none (Data.func (FuncData.mk (Str.ofString "italic") (Str.ofString "Font.italic") (fnA (pI (clB (pI pB 27)) 5)) (.stmts (fnB (pI (clB (pI pB 27)) 5))) (fnS (pI (clB (pI pB 27)) 5)) 0 [] Value.none Value.none Value.none Value.none none Value.none Value.none 0)) (List.toArray []))
noncomputable def o146 (P : Params) : Obj := (Obj.mk (Value.type "code") none (Data.fields (List.toArray [(Value.str (Str.ofString "italic") 489), (Value.str (Str.ofString "Font.italic") 490), (Value.str (Str.ofString "/claim/cut.py") 491), (Value.int 131 0), (Value.int 2 0), (Value.int 0 0), (Value.int 0 0), (Value.int 3 0), (Value.ref 215), (Value.bool true), (Value.int 181 0), (Value.ref 216), Value.none, (Value.ref 217), (Value.ref 218), (Value.ref 219), (Value.int 494 0), (Value.int 131 0), (Value.str (Str.ofString "/claim/cut.py") 495)])) (List.toArray []))
noncomputable def o147 (P : Params) : Obj := (Obj.mk (Value.type "function") none (Data.func (FuncData.mk (Str.ofString "italic") (Str.ofString "Font.italic") (fnA (pI (clB (pI pB 27)) 5)) (.stmts (fnB (pI (clB (pI pB 27)) 5))) (fnS (pI (clB (pI pB 27)) 5)) 3 [] Value.none Value.none Value.none (Value.str (Str.ofString "gluepage.fonts") 319) none (Value.ref 220) Value.none 0)) (List.toArray []))
noncomputable def o148 (P : Params) : Obj := (Obj.mk (Value.type "tuple") none (Data.seq (List.toArray [(Value.str (Str.ofString "self") 500), (Value.str (Str.ofString "code") 501), (Value.str (Str.ofString "row") 502)]) 0) (List.toArray []))
noncomputable def o149 (P : Params) : Obj := (Obj.mk Value.none none (Data.func (FuncData.mk (Str.ofString "starts") (Str.ofString "Font.starts") (fnA (pI (clB (pI pB 27)) 6)) (.stmts (fnB (pI (clB (pI pB 27)) 6))) (fnS (pI (clB (pI pB 27)) 6)) 0 [] Value.none Value.none Value.none Value.none none Value.none Value.none 0)) (List.toArray []))
noncomputable def o150 (P : Params) : Obj := (Obj.mk (Value.type "code") none (Data.fields (List.toArray [(Value.str (Str.ofString "starts") 497), (Value.str (Str.ofString "Font.starts") 498), (Value.str (Str.ofString "/claim/cut.py") 499), (Value.int 134 0), (Value.int 2 0), (Value.int 0 0), (Value.int 0 0), (Value.int 3 0), (Value.ref 222), (Value.bool true), (Value.int 181 0), (Value.ref 223), Value.none, (Value.ref 224), (Value.ref 225), (Value.ref 226), (Value.int 503 0), (Value.int 134 0), (Value.str (Str.ofString "/claim/cut.py") 504)])) (List.toArray []))
noncomputable def o151 (P : Params) : Obj := (Obj.mk (Value.type "function") none (Data.func (FuncData.mk (Str.ofString "starts") (Str.ofString "Font.starts") (fnA (pI (clB (pI pB 27)) 6)) (.stmts (fnB (pI (clB (pI pB 27)) 6))) (fnS (pI (clB (pI pB 27)) 6)) 3 [] Value.none Value.none Value.none (Value.str (Str.ofString "gluepage.fonts") 319) none (Value.ref 227) Value.none 0)) (List.toArray []))
noncomputable def o152 (P : Params) : Obj := (Obj.mk (Value.type "tuple") none (Data.seq (List.toArray [(Value.str (Str.ofString "self") 509), (Value.str (Str.ofString "code") 510), (Value.str (Str.ofString "row") 511)]) 0) (List.toArray []))
noncomputable def o153 (P : Params) : Obj := (Obj.mk Value.none none (Data.func (FuncData.mk (Str.ofString "larger") (Str.ofString "Font.larger") (fnA (pI (clB (pI pB 27)) 7)) (.stmts (fnB (pI (clB (pI pB 27)) 7))) (fnS (pI (clB (pI pB 27)) 7)) 0 [] Value.none Value.none Value.none Value.none none Value.none Value.none 0)) (List.toArray []))
noncomputable def o154 (P : Params) : Obj := (Obj.mk (Value.type "code") none (Data.fields (List.toArray [(Value.str (Str.ofString "larger") 506), (Value.str (Str.ofString "Font.larger") 507), (Value.str (Str.ofString "/claim/cut.py") 508), (Value.int 140 0), (Value.int 2 0), (Value.int 0 0), (Value.int 0 0), (Value.int 3 0), (Value.ref 229), (Value.bool true), (Value.int 181 0), (Value.ref 230), Value.none, (Value.ref 231), (Value.ref 232), (Value.ref 233), (Value.int 512 0), (Value.int 140 0), (Value.str (Str.ofString "/claim/cut.py") 513)])) (List.toArray []))
noncomputable def o155 (P : Params) : Obj := (Obj.mk (Value.type "function") none (Data.func (FuncData.mk (Str.ofString "larger") (Str.ofString "Font.larger") (fnA (pI (clB (pI pB 27)) 7)) (.stmts (fnB (pI (clB (pI pB 27)) 7))) (fnS (pI (clB (pI pB 27)) 7)) 3 [] Value.none Value.none Value.none (Value.str (Str.ofString "gluepage.fonts") 319) none (Value.ref 234) Value.none 0)) (List.toArray []))
noncomputable def o156 (P : Params) : Obj := (Obj.mk (Value.type "tuple") none (Data.seq (List.toArray [(Value.str (Str.ofString "self") 518), (Value.str (Str.ofString "code") 519), (Value.str (Str.ofString "row") 520)]) 0) (List.toArray []))
noncomputable def o157 (P : Params) : Obj := (Obj.mk Value.none none (Data.func (FuncData.mk (Str.ofString "pieces") (Str.ofString "Font.pieces") (fnA (pI (clB (pI pB 27)) 8)) (.stmts (fnB (pI (clB (pI pB 27)) 8))) (fnS (pI (clB (pI pB 27)) 8)) 0 [] Value.none Value.none Value.none Value.none none Value.none Value.none 0)) (List.toArray []))
noncomputable def o158 (P : Params) : Obj := (Obj.mk (Value.type "code") none (Data.fields (List.toArray [(Value.str (Str.ofString "pieces") 515), (Value.str (Str.ofString "Font.pieces") 516), (Value.str (Str.ofString "/claim/cut.py") 517), (Value.int 144 0), (Value.int 2 0), (Value.int 0 0), (Value.int 0 0), (Value.int 3 0), (Value.ref 236), (Value.bool true), (Value.int 181 0), (Value.ref 237), Value.none, (Value.ref 238), (Value.ref 239), (Value.ref 240), (Value.int 521 0), (Value.int 144 0), (Value.str (Str.ofString "/claim/cut.py") 522)])) (List.toArray []))
noncomputable def o159 (P : Params) : Obj := (Obj.mk (Value.type "function") none (Data.func (FuncData.mk (Str.ofString "pieces") (Str.ofString "Font.pieces") (fnA (pI (clB (pI pB 27)) 8)) (.stmts (fnB (pI (clB (pI pB 27)) 8))) (fnS (pI (clB (pI pB 27)) 8)) 3 [] Value.none Value.none Value.none (Value.str (Str.ofString "gluepage.fonts") 319) none (Value.ref 241) Value.none 0)) (List.toArray []))
noncomputable def o160 (P : Params) : Obj := (Obj.mk (Value.type "tuple") none (Data.seq (List.toArray [(Value.str (Str.ofString "self") 527), (Value.str (Str.ofString "number") 528)]) 0) (List.toArray []))
noncomputable def o161 (P : Params) : Obj := (Obj.mk Value.none none (Data.func (FuncData.mk (Str.ofString "param") (Str.ofString "Font.param") (fnA (pI (clB (pI pB 27)) 9)) (.stmts (fnB (pI (clB (pI pB 27)) 9))) (fnS (pI (clB (pI pB 27)) 9)) 0 [] Value.none Value.none Value.none Value.none none Value.none Value.none 0)) (List.toArray []))
noncomputable def o162 (P : Params) : Obj := (Obj.mk (Value.type "code") none (Data.fields (List.toArray [(Value.str (Str.ofString "param") 524), (Value.str (Str.ofString "Font.param") 525), (Value.str (Str.ofString "/claim/cut.py") 526), (Value.int 148 0), (Value.int 2 0), (Value.int 0 0), (Value.int 0 0), (Value.int 3 0), (Value.ref 243), (Value.bool true), (Value.int 181 0), (Value.ref 244), Value.none, (Value.ref 245), (Value.ref 246), (Value.ref 247), (Value.int 529 0), (Value.int 148 0), (Value.str (Str.ofString "/claim/cut.py") 530)])) (List.toArray []))
noncomputable def o163 (P : Params) : Obj := (Obj.mk (Value.type "function") none (Data.func (FuncData.mk (Str.ofString "param") (Str.ofString "Font.param") (fnA (pI (clB (pI pB 27)) 9)) (.stmts (fnB (pI (clB (pI pB 27)) 9))) (fnS (pI (clB (pI pB 27)) 9)) 3 [] Value.none Value.none Value.none (Value.str (Str.ofString "gluepage.fonts") 319) none (Value.ref 248) Value.none 0)) (List.toArray []))
noncomputable def o164 (P : Params) : Obj := (Obj.mk (Value.type "tuple") none (Data.seq (List.toArray [(Value.str (Str.ofString "self") 535), (Value.str (Str.ofString "number") 536), (Value.str (Str.ofString "value") 537)]) 0) (List.toArray []))
noncomputable def o165 (P : Params) : Obj := (Obj.mk Value.none none (Data.func (FuncData.mk (Str.ofString "set_param") (Str.ofString "Font.set_param") (fnA (pI (clB (pI pB 27)) 10)) (.stmts (fnB (pI (clB (pI pB 27)) 10))) (fnS (pI (clB (pI pB 27)) 10)) 0 [] Value.none Value.none Value.none Value.none none Value.none Value.none 0)) (List.toArray []))
noncomputable def o166 (P : Params) : Obj := (Obj.mk (Value.type "code") none (Data.fields (List.toArray [(Value.str (Str.ofString "set_param") 532), (Value.str (Str.ofString "Font.set_param") 533), (Value.str (Str.ofString "/claim/cut.py") 534), (Value.int 151 0), (Value.int 3 0), (Value.int 0 0), (Value.int 0 0), (Value.int 3 0), (Value.ref 250), (Value.bool true), (Value.int 181 0), (Value.ref 251), Value.none, (Value.ref 252), (Value.ref 253), (Value.ref 254), (Value.int 538 0), (Value.int 151 0), (Value.str (Str.ofString "/claim/cut.py") 539)])) (List.toArray []))
noncomputable def o167 (P : Params) : Obj := (Obj.mk (Value.type "function") none (Data.func (FuncData.mk (Str.ofString "set_param") (Str.ofString "Font.set_param") (fnA (pI (clB (pI pB 27)) 10)) (.stmts (fnB (pI (clB (pI pB 27)) 10))) (fnS (pI (clB (pI pB 27)) 10)) 3 [] Value.none Value.none Value.none (Value.str (Str.ofString "gluepage.fonts") 319) none (Value.ref 255) Value.none 0)) (List.toArray []))
noncomputable def o168 (P : Params) : Obj := (Obj.mk (Value.type "tuple") none (Data.seq (List.toArray [(Value.str (Str.ofString "boundary") 541), (Value.str (Str.ofString "chars") 542), (Value.str (Str.ofString "check") 543), (Value.str (Str.ofString "design") 544), (Value.str (Str.ofString "edge_start") 545), (Value.str (Str.ofString "hyphen_char") 546), (Value.str (Str.ofString "kerns") 547), (Value.str (Str.ofString "name") 548), (Value.str (Str.ofString "number") 549), (Value.str (Str.ofString "params") 550), (Value.str (Str.ofString "program") 551), (Value.str (Str.ofString "size") 552), (Value.str (Str.ofString "skew_char") 553)]) 0) (List.toArray []))
noncomputable def o169 (P : Params) : Obj := (Obj.mk (Value.type "dict") none (Data.dict (List.toArray [(ke P (Str.ofString "__module__") 437 (Value.str (Str.ofString "gluepage.fonts") 319)), (ke P (Str.ofString "__firstlineno__") 441 (Value.int 93 440)), (ke P (Str.ofString "__init__") 456 (Value.ref 186)), (ke P (Str.ofString "has") 464 (Value.ref 193)), (ke P (Str.ofString "width") 472 (Value.ref 200)), (ke P (Str.ofString "height") 480 (Value.ref 207)), (ke P (Str.ofString "depth") 488 (Value.ref 214)), (ke P (Str.ofString "italic") 496 (Value.ref 221)), (ke P (Str.ofString "starts") 505 (Value.ref 228)), (ke P (Str.ofString "larger") 514 (Value.ref 235)), (ke P (Str.ofString "pieces") 523 (Value.ref 242)), (ke P (Str.ofString "param") 531 (Value.ref 249)), (ke P (Str.ofString "set_param") 540 (Value.ref 256)), (ke P (Str.ofString "__static_attributes__") 554 (Value.ref 257)), (ke P (Str.ofString "__dict__") 556 (Value.ref 260)), (ke P (Str.ofString "__weakref__") 558 (Value.ref 261)), (ke P (Str.ofString "__doc__") 559 Value.none)]) 4) (List.toArray []))
noncomputable def o170 (P : Params) : Obj := (Obj.mk (Value.type "type") none (Data.cls (ClassData.mk (Str.ofString "Font") [(Value.type "object")] [(Value.ref 259), (Value.type "object")] 258 (Str.ofString "Font") true [] [] false none false)) (List.toArray [none, none, (some (Value.str (Str.ofString "Font") 430)), (some (Value.str (Str.ofString "Font") 438)), (some (Value.builtin "object.__new__")), (some (Value.bool true))]))
noncomputable def o171 (P : Params) : Obj := (Obj.mk (Value.type "getset_descriptor") none (Data.fields (List.toArray [(Value.str (Str.ofString "__dict__") 555), (Value.ref 259), (Value.builtin "function.__dict__"), (Value.builtin "function.__dict__#set")])) (List.toArray []))
noncomputable def o172 (P : Params) : Obj := (Obj.mk (Value.type "getset_descriptor") none (Data.fields (List.toArray [(Value.str (Str.ofString "__weakref__") 557), (Value.ref 259), (Value.builtin "ExceptionGroup.__weakref__"), Value.none])) (List.toArray []))
noncomputable def o173 (P : Params) : Obj := (Obj.mk (Value.type "super") none (Data.fields (List.toArray [(Value.ref 259), (Value.ref 259), (Value.ref 259)])) (List.toArray []))
noncomputable def o174 (P : Params) : Obj := (Obj.mk (Value.type "builtin_function_or_method") none (Data.fields (List.toArray [(Value.builtin "object.__init_subclass__"), (Value.ref 259)])) (List.toArray []))
noncomputable def o175 (P : Params) : Obj := (Obj.mk (Value.type "dict") none (Data.dict (List.toArray [(ke P (Str.ofString "__name__") 165 (Value.str (Str.ofString "gluepage.nodes") 562)), (ke P (Str.ofString "__doc__") 166 Value.none), (ke P (Str.ofString "__package__") 167 Value.none), (ke P (Str.ofString "__loader__") 168 (Value.builtin "__main__.__loader__#opaque")), (ke P (Str.ofString "__spec__") 169 Value.none), (ke P (Str.ofString "__annotations__") 170 (Value.ref 6)), (ke P (Str.ofString "__builtins__") 171 (Value.ref 4)), (ke P (Str.ofString "__file__") 173 (Value.str (Str.ofString "/claim/cut.py") 172)), (ke P (Str.ofString "__cached__") 174 Value.none), (ke P (Str.ofString "_wall") 193 (Value.ref 21)), (ke P (Str.ofString "PageError") 223 (Value.ref 39)), (ke P (Str.ofString "BadArgument") 239 (Value.ref 52)), (ke P (Str.ofString "Overflow") 255 (Value.ref 64)), (ke P (Str.ofString "BadFont") 271 (Value.ref 76)), (ke P (Str.ofString "TooMuch") 287 (Value.ref 88)), (ke P (Str.ofString "MAX_DIMEN") 295 (Value.int 1073741823 294)), (ke P (Str.ofString "is_whole") 304 (Value.ref 97)), (ke P (Str.ofString "check_whole") 311 (Value.ref 104)), (ke P (Str.ofString "check_dimen") 318 (Value.ref 111)), (ke P (Str.ofString "EDGE") 322 (Value.int 256 321)), (ke P (Str.ofString "MOST_FONTS") 324 (Value.int 255 323)), (ke P (Str.ofString "MOST_PARAMS") 326 (Value.int 64 325)), (ke P (Str.ofString "MOST_SIZE") 332 (Value.int 134217727 331)), (ke P (Str.ofString "PLAIN_SORT") 337 (Value.int 0 333)), (ke P (Str.ofString "PROGRAM_SORT") 338 (Value.int 1 334)), (ke P (Str.ofString "LARGER_SORT") 339 (Value.int 2 335)), (ke P (Str.ofString "PIECES_SORT") 340 (Value.int 3 336)), (ke P (Str.ofString "STOP_SKIP") 344 (Value.int 128 341)), (ke P (Str.ofString "KERN_OP") 345 (Value.int 128 342)), (ke P (Str.ofString "LEAD") 346 (Value.int 255 343)), (ke P (Str.ofString "NO_CHARACTER") 353 (Value.ref 120)), (ke P (Str.ofString "is_size") 360 (Value.ref 127)), (ke P (Str.ofString "check_sizes") 368 (Value.ref 134)), (ke P (Str.ofString "check_pieces") 378 (Value.ref 141)), (ke P (Str.ofString "check_chars") 390 (Value.ref 148)), (ke P (Str.ofString "check_larger") 400 (Value.ref 155)), (ke P (Str.ofString "check_program") 418 (Value.ref 162)), (ke P (Str.ofString "left_start") 429 (Value.ref 169)), (ke P (Str.ofString "Font") 561 (Value.ref 259)), (ke P (Str.ofString "CHAR") 572 (Value.int 0 564)), (ke P (Str.ofString "LIGATURE") 573 (Value.int 1 565)), (ke P (Str.ofString "HBOX") 574 (Value.int 2 566)), (ke P (Str.ofString "VBOX") 575 (Value.int 3 567)), (ke P (Str.ofString "RULE") 576 (Value.int 4 568)), (ke P (Str.ofString "KERN") 577 (Value.int 5 569)), (ke P (Str.ofString "GLUE") 578 (Value.int 6 570)), (ke P (Str.ofString "PENALTY") 579 (Value.int 7 571)), (ke P (Str.ofString "FONT_KERN") 584 (Value.int 0 580)), (ke P (Str.ofString "EXPLICIT") 585 (Value.int 1 581)), (ke P (Str.ofString "ACCENT_KERN") 586 (Value.int 2 582)), (ke P (Str.ofString "MU_KERN") 587 (Value.int 3 583)), (ke P (Str.ofString "check_code") 594 (Value.ref 278))]) 52) (List.toArray []))
noncomputable def o176 (P : Params) : Obj := (Obj.mk Value.none none (Data.fields (List.toArray [(Value.int 1 0), (Value.int 0 0), (Value.ref 20), (Value.int 5 0), (Value.int 0 0), (Value.ref 27), (Value.int 9 0), (Value.int 0 0), (Value.ref 48), (Value.int 11 0), (Value.int 0 0), (Value.ref 60), (Value.int 13 0), (Value.int 0 0), (Value.ref 72), (Value.int 15 0), (Value.int 0 0), (Value.ref 84), (Value.int 19 0), (Value.int 0 0), (Value.ref 96), (Value.int 21 0), (Value.int 0 0), (Value.ref 103), (Value.int 25 0), (Value.int 0 0), (Value.ref 110), (Value.int 37 0), (Value.int 0 0), (Value.ref 126), (Value.int 39 0), (Value.int 0 0), (Value.ref 133), (Value.int 43 0), (Value.int 0 0), (Value.ref 140), (Value.int 49 0), (Value.int 0 0), (Value.ref 147), (Value.int 61 0), (Value.int 0 0), (Value.ref 154), (Value.int 69 0), (Value.int 0 0), (Value.ref 161), (Value.int 88 0), (Value.int 0 0), (Value.ref 168), (Value.int 93 0), (Value.int 0 0), (Value.ref 175), (Value.int 156 0), (Value.int 0 0), (Value.ref 277)])) (List.toArray []))
noncomputable def o177 (P : Params) : Obj := (Obj.mk (Value.type "tuple") none (Data.seq (List.toArray [(Value.int 0 564), (Value.int 1 565), (Value.int 2 566), (Value.int 3 567), (Value.int 4 568), (Value.int 5 569), (Value.int 6 570), (Value.int 7 571)]) 0) (List.toArray []))
noncomputable def o178 (P : Params) : Obj := (Obj.mk (Value.type "tuple_iterator") none (Data.fields (List.toArray [Value.none, (Value.int 8 0)])) (List.toArray []))
noncomputable def o179 (P : Params) : Obj := (Obj.mk (Value.type "StopIteration") none (Data.fields (List.toArray [(Value.ref 266), Value.none, Value.none, Value.none, (Value.bool false), Value.none])) (List.toArray []))
noncomputable def o180 (P : Params) : Obj := (Obj.mk (Value.type "tuple") none (Data.seq (List.toArray [(Value.int 0 580), (Value.int 1 581), (Value.int 2 582), (Value.int 3 583)]) 0) (List.toArray []))
noncomputable def o181 (P : Params) : Obj := (Obj.mk (Value.type "StopIteration") none (Data.fields (List.toArray [(Value.ref 270), Value.none, Value.none, Value.none, (Value.bool false), Value.none])) (List.toArray []))
noncomputable def o182 (P : Params) : Obj := (Obj.mk (Value.type "tuple") none (Data.seq (List.toArray [(Value.str (Str.ofString "code") 591)]) 0) (List.toArray []))
noncomputable def o183 (P : Params) : Obj := (Obj.mk Value.none none (Data.func (FuncData.mk (Str.ofString "check_code") (Str.ofString "check_code") (fnA (pI pB 31)) (.stmts (fnB (pI pB 31))) (fnS (pI pB 31)) 0 [] Value.none Value.none Value.none Value.none none Value.none Value.none 0)) (List.toArray []))
noncomputable def o184 (P : Params) : Obj := (Obj.mk (Value.type "code") none (Data.fields (List.toArray [(Value.str (Str.ofString "check_code") 588), (Value.str (Str.ofString "check_code") 589), (Value.str (Str.ofString "/claim/cut.py") 590), (Value.int 156 0), (Value.int 1 0), (Value.int 0 0), (Value.int 0 0), (Value.int 3 0), (Value.ref 272), (Value.bool true), (Value.int 181 0), (Value.ref 273), Value.none, (Value.ref 274), (Value.ref 275), (Value.ref 276), (Value.int 592 0), (Value.int 156 0), (Value.str (Str.ofString "/claim/cut.py") 593)])) (List.toArray []))
noncomputable def o185 (P : Params) : Obj := (Obj.mk (Value.type "function") none (Data.func (FuncData.mk (Str.ofString "check_code") (Str.ofString "check_code") (fnA (pI pB 31)) (.stmts (fnB (pI pB 31))) (fnS (pI pB 31)) 3 [] Value.none Value.none Value.none (Value.str (Str.ofString "gluepage.nodes") 562) none (Value.ref 277) Value.none 0)) (List.toArray []))
noncomputable def o186 (P : Params) : Obj := (Obj.mk (Value.type "dict") none (Data.dict (List.toArray [(ke P (Str.ofString "__name__") 165 (Value.str (Str.ofString "gluepage.nodes") 562)), (ke P (Str.ofString "__doc__") 166 Value.none), (ke P (Str.ofString "__package__") 167 Value.none), (ke P (Str.ofString "__loader__") 168 (Value.builtin "__main__.__loader__#opaque")), (ke P (Str.ofString "__spec__") 169 Value.none), (ke P (Str.ofString "__annotations__") 170 (Value.ref 6)), (ke P (Str.ofString "__builtins__") 171 (Value.ref 4)), (ke P (Str.ofString "__file__") 173 (Value.str (Str.ofString "/claim/cut.py") 172)), (ke P (Str.ofString "__cached__") 174 Value.none), (ke P (Str.ofString "_wall") 193 (Value.ref 21)), (ke P (Str.ofString "PageError") 223 (Value.ref 39)), (ke P (Str.ofString "BadArgument") 239 (Value.ref 52)), (ke P (Str.ofString "Overflow") 255 (Value.ref 64)), (ke P (Str.ofString "BadFont") 271 (Value.ref 76)), (ke P (Str.ofString "TooMuch") 287 (Value.ref 88)), (ke P (Str.ofString "MAX_DIMEN") 295 (Value.int 1073741823 294)), (ke P (Str.ofString "is_whole") 304 (Value.ref 97)), (ke P (Str.ofString "check_whole") 311 (Value.ref 104)), (ke P (Str.ofString "check_dimen") 318 (Value.ref 111)), (ke P (Str.ofString "EDGE") 322 (Value.int 256 321)), (ke P (Str.ofString "MOST_FONTS") 324 (Value.int 255 323)), (ke P (Str.ofString "MOST_PARAMS") 326 (Value.int 64 325)), (ke P (Str.ofString "MOST_SIZE") 332 (Value.int 134217727 331)), (ke P (Str.ofString "PLAIN_SORT") 337 (Value.int 0 333)), (ke P (Str.ofString "PROGRAM_SORT") 338 (Value.int 1 334)), (ke P (Str.ofString "LARGER_SORT") 339 (Value.int 2 335)), (ke P (Str.ofString "PIECES_SORT") 340 (Value.int 3 336)), (ke P (Str.ofString "STOP_SKIP") 344 (Value.int 128 341)), (ke P (Str.ofString "KERN_OP") 345 (Value.int 128 342)), (ke P (Str.ofString "LEAD") 346 (Value.int 255 343)), (ke P (Str.ofString "NO_CHARACTER") 353 (Value.ref 120)), (ke P (Str.ofString "is_size") 360 (Value.ref 127)), (ke P (Str.ofString "check_sizes") 368 (Value.ref 134)), (ke P (Str.ofString "check_pieces") 378 (Value.ref 141)), (ke P (Str.ofString "check_chars") 390 (Value.ref 148)), (ke P (Str.ofString "check_larger") 400 (Value.ref 155)), (ke P (Str.ofString "check_program") 418 (Value.ref 162)), (ke P (Str.ofString "left_start") 429 (Value.ref 169)), (ke P (Str.ofString "Font") 561 (Value.ref 259)), (ke P (Str.ofString "CHAR") 572 (Value.int 0 564)), (ke P (Str.ofString "LIGATURE") 573 (Value.int 1 565)), (ke P (Str.ofString "HBOX") 574 (Value.int 2 566)), (ke P (Str.ofString "VBOX") 575 (Value.int 3 567)), (ke P (Str.ofString "RULE") 576 (Value.int 4 568)), (ke P (Str.ofString "KERN") 577 (Value.int 5 569)), (ke P (Str.ofString "GLUE") 578 (Value.int 6 570)), (ke P (Str.ofString "PENALTY") 579 (Value.int 7 571)), (ke P (Str.ofString "FONT_KERN") 584 (Value.int 0 580)), (ke P (Str.ofString "EXPLICIT") 585 (Value.int 1 581)), (ke P (Str.ofString "ACCENT_KERN") 586 (Value.int 2 582)), (ke P (Str.ofString "MU_KERN") 587 (Value.int 3 583)), (ke P (Str.ofString "check_code") 594 (Value.ref 278)), (ke P (Str.ofString "Char") 626 (Value.ref 295))]) 53) (List.toArray []))
noncomputable def o187 (P : Params) : Obj := (Obj.mk Value.none none (Data.fields (List.toArray [(Value.int 1 0), (Value.int 0 0), (Value.ref 20), (Value.int 5 0), (Value.int 0 0), (Value.ref 27), (Value.int 9 0), (Value.int 0 0), (Value.ref 48), (Value.int 11 0), (Value.int 0 0), (Value.ref 60), (Value.int 13 0), (Value.int 0 0), (Value.ref 72), (Value.int 15 0), (Value.int 0 0), (Value.ref 84), (Value.int 19 0), (Value.int 0 0), (Value.ref 96), (Value.int 21 0), (Value.int 0 0), (Value.ref 103), (Value.int 25 0), (Value.int 0 0), (Value.ref 110), (Value.int 37 0), (Value.int 0 0), (Value.ref 126), (Value.int 39 0), (Value.int 0 0), (Value.ref 133), (Value.int 43 0), (Value.int 0 0), (Value.ref 140), (Value.int 49 0), (Value.int 0 0), (Value.ref 147), (Value.int 61 0), (Value.int 0 0), (Value.ref 154), (Value.int 69 0), (Value.int 0 0), (Value.ref 161), (Value.int 88 0), (Value.int 0 0), (Value.ref 168), (Value.int 93 0), (Value.int 0 0), (Value.ref 175), (Value.int 156 0), (Value.int 0 0), (Value.ref 277), (Value.int 160 0), (Value.int 0 0), (Value.ref 284)])) (List.toArray []))
noncomputable def o188 (P : Params) : Obj := (Obj.mk (Value.type "dict") none (Data.dict (List.toArray [(ke P (Str.ofString "__module__") 602 (Value.str (Str.ofString "gluepage.nodes") 562)), (ke P (Str.ofString "__qualname__") 604 (Value.str (Str.ofString "Char") 603)), (ke P (Str.ofString "__firstlineno__") 606 (Value.int 160 605)), (ke P (Str.ofString "kind") 607 (Value.int 0 564)), (ke P (Str.ofString "__init__") 616 (Value.ref 292)), (ke P (Str.ofString "__static_attributes__") 619 (Value.ref 293))]) 6) (List.toArray []))
noncomputable def o189 (P : Params) : Obj := (Obj.mk Value.none none (Data.fields (List.toArray [(Value.int 163 0), (Value.int 4 0), (Value.ref 291)])) (List.toArray []))
noncomputable def o190 (P : Params) : Obj := (Obj.mk (Value.type "code") none (Data.fields (List.toArray [(Value.str (Str.ofString "Char") 597), (Value.str (Str.ofString "Char") 598), (Value.str (Str.ofString "/claim/cut.py") 599), (Value.int 160 0), (Value.int 0 0), (Value.int 0 0), (Value.int 0 0), (Value.int 0 0), (Value.ref 282), (Value.bool false), (Value.int 181 0), (Value.ref 283), Value.none, Value.none, Value.none, Value.none, (Value.int 600 0), (Value.int 160 0), (Value.str (Str.ofString "/claim/cut.py") 601)])) (List.toArray []))
noncomputable def o191 (P : Params) : Obj := (Obj.mk (Value.type "frame") none Data.plain (List.toArray [(some (Value.ref 284)), (some (Value.ref 3)), (some (Value.ref 281)), none, (some (Value.str (Str.ofString "gluepage.nodes") 562)), none, (some (Value.ref 0))]))
noncomputable def o192 (P : Params) : Obj := (Obj.mk (Value.type "tuple") none (Data.seq (List.toArray [(Value.str (Str.ofString "self") 611), (Value.str (Str.ofString "font") 612), (Value.str (Str.ofString "code") 613)]) 0) (List.toArray []))
noncomputable def o193 (P : Params) : Obj := (Obj.mk Value.none none (Data.func (FuncData.mk (Str.ofString "__init__") (Str.ofString "Char.__init__") (fnA (pI (clB (pI pB 32)) 1)) (.stmts (fnB (pI (clB (pI pB 32)) 1))) (fnS (pI (clB (pI pB 32)) 1)) 0 [] Value.none Value.none Value.none Value.none none Value.none Value.none 0)) (List.toArray []))
noncomputable def o194 (P : Params) : Obj := (Obj.mk (Value.type "code") none (Data.fields (List.toArray [(Value.str (Str.ofString "__init__") 608), (Value.str (Str.ofString "Char.__init__") 609), (Value.str (Str.ofString "/claim/cut.py") 610), (Value.int 163 0), (Value.int 3 0), (Value.int 0 0), (Value.int 0 0), (Value.int 3 0), (Value.ref 286), (Value.bool true), (Value.int 181 0), (Value.ref 287), Value.none, (Value.ref 288), (Value.ref 289), (Value.ref 290), (Value.int 614 0), (Value.int 163 0), (Value.str (Str.ofString "/claim/cut.py") 615)])) (List.toArray []))
noncomputable def o195 (P : Params) : Obj := (Obj.mk (Value.type "function") none (Data.func (FuncData.mk (Str.ofString "__init__") (Str.ofString "Char.__init__") (fnA (pI (clB (pI pB 32)) 1)) (.stmts (fnB (pI (clB (pI pB 32)) 1))) (fnS (pI (clB (pI pB 32)) 1)) 3 [] Value.none Value.none Value.none (Value.str (Str.ofString "gluepage.nodes") 562) none (Value.ref 291) Value.none 0)) (List.toArray []))
noncomputable def o196 (P : Params) : Obj := (Obj.mk (Value.type "tuple") none (Data.seq (List.toArray [(Value.str (Str.ofString "code") 617), (Value.str (Str.ofString "font") 618)]) 0) (List.toArray []))
noncomputable def o197 (P : Params) : Obj := (Obj.mk (Value.type "dict") none (Data.dict (List.toArray [(ke P (Str.ofString "__module__") 602 (Value.str (Str.ofString "gluepage.nodes") 562)), (ke P (Str.ofString "__firstlineno__") 606 (Value.int 160 605)), (ke P (Str.ofString "kind") 607 (Value.int 0 564)), (ke P (Str.ofString "__init__") 616 (Value.ref 292)), (ke P (Str.ofString "__static_attributes__") 619 (Value.ref 293)), (ke P (Str.ofString "__dict__") 621 (Value.ref 296)), (ke P (Str.ofString "__weakref__") 623 (Value.ref 297)), (ke P (Str.ofString "__doc__") 624 Value.none)]) 4) (List.toArray []))
noncomputable def o198 (P : Params) : Obj := (Obj.mk (Value.type "type") none (Data.cls (ClassData.mk (Str.ofString "Char") [(Value.type "object")] [(Value.ref 295), (Value.type "object")] 294 (Str.ofString "Char") true [] [] false none false)) (List.toArray [none, none, (some (Value.str (Str.ofString "Char") 595)), (some (Value.str (Str.ofString "Char") 603)), (some (Value.builtin "object.__new__")), (some (Value.bool true))]))
noncomputable def o199 (P : Params) : Obj := (Obj.mk (Value.type "getset_descriptor") none (Data.fields (List.toArray [(Value.str (Str.ofString "__dict__") 620), (Value.ref 295), (Value.builtin "function.__dict__"), (Value.builtin "function.__dict__#set")])) (List.toArray []))
noncomputable def o200 (P : Params) : Obj := (Obj.mk (Value.type "getset_descriptor") none (Data.fields (List.toArray [(Value.str (Str.ofString "__weakref__") 622), (Value.ref 295), (Value.builtin "ExceptionGroup.__weakref__"), Value.none])) (List.toArray []))
noncomputable def o201 (P : Params) : Obj := (Obj.mk (Value.type "super") none (Data.fields (List.toArray [(Value.ref 295), (Value.ref 295), (Value.ref 295)])) (List.toArray []))
noncomputable def o202 (P : Params) : Obj := (Obj.mk (Value.type "builtin_function_or_method") none (Data.fields (List.toArray [(Value.builtin "object.__init_subclass__"), (Value.ref 295)])) (List.toArray []))
noncomputable def o203 (P : Params) : Obj := (Obj.mk (Value.type "dict") none (Data.dict (List.toArray [(ke P (Str.ofString "__name__") 165 (Value.str (Str.ofString "gluepage.nodes") 562)), (ke P (Str.ofString "__doc__") 166 Value.none), (ke P (Str.ofString "__package__") 167 Value.none), (ke P (Str.ofString "__loader__") 168 (Value.builtin "__main__.__loader__#opaque")), (ke P (Str.ofString "__spec__") 169 Value.none), (ke P (Str.ofString "__annotations__") 170 (Value.ref 6)), (ke P (Str.ofString "__builtins__") 171 (Value.ref 4)), (ke P (Str.ofString "__file__") 173 (Value.str (Str.ofString "/claim/cut.py") 172)), (ke P (Str.ofString "__cached__") 174 Value.none), (ke P (Str.ofString "_wall") 193 (Value.ref 21)), (ke P (Str.ofString "PageError") 223 (Value.ref 39)), (ke P (Str.ofString "BadArgument") 239 (Value.ref 52)), (ke P (Str.ofString "Overflow") 255 (Value.ref 64)), (ke P (Str.ofString "BadFont") 271 (Value.ref 76)), (ke P (Str.ofString "TooMuch") 287 (Value.ref 88)), (ke P (Str.ofString "MAX_DIMEN") 295 (Value.int 1073741823 294)), (ke P (Str.ofString "is_whole") 304 (Value.ref 97)), (ke P (Str.ofString "check_whole") 311 (Value.ref 104)), (ke P (Str.ofString "check_dimen") 318 (Value.ref 111)), (ke P (Str.ofString "EDGE") 322 (Value.int 256 321)), (ke P (Str.ofString "MOST_FONTS") 324 (Value.int 255 323)), (ke P (Str.ofString "MOST_PARAMS") 326 (Value.int 64 325)), (ke P (Str.ofString "MOST_SIZE") 332 (Value.int 134217727 331)), (ke P (Str.ofString "PLAIN_SORT") 337 (Value.int 0 333)), (ke P (Str.ofString "PROGRAM_SORT") 338 (Value.int 1 334)), (ke P (Str.ofString "LARGER_SORT") 339 (Value.int 2 335)), (ke P (Str.ofString "PIECES_SORT") 340 (Value.int 3 336)), (ke P (Str.ofString "STOP_SKIP") 344 (Value.int 128 341)), (ke P (Str.ofString "KERN_OP") 345 (Value.int 128 342)), (ke P (Str.ofString "LEAD") 346 (Value.int 255 343)), (ke P (Str.ofString "NO_CHARACTER") 353 (Value.ref 120)), (ke P (Str.ofString "is_size") 360 (Value.ref 127)), (ke P (Str.ofString "check_sizes") 368 (Value.ref 134)), (ke P (Str.ofString "check_pieces") 378 (Value.ref 141)), (ke P (Str.ofString "check_chars") 390 (Value.ref 148)), (ke P (Str.ofString "check_larger") 400 (Value.ref 155)), (ke P (Str.ofString "check_program") 418 (Value.ref 162)), (ke P (Str.ofString "left_start") 429 (Value.ref 169)), (ke P (Str.ofString "Font") 561 (Value.ref 259)), (ke P (Str.ofString "CHAR") 572 (Value.int 0 564)), (ke P (Str.ofString "LIGATURE") 573 (Value.int 1 565)), (ke P (Str.ofString "HBOX") 574 (Value.int 2 566)), (ke P (Str.ofString "VBOX") 575 (Value.int 3 567)), (ke P (Str.ofString "RULE") 576 (Value.int 4 568)), (ke P (Str.ofString "KERN") 577 (Value.int 5 569)), (ke P (Str.ofString "GLUE") 578 (Value.int 6 570)), (ke P (Str.ofString "PENALTY") 579 (Value.int 7 571)), (ke P (Str.ofString "FONT_KERN") 584 (Value.int 0 580)), (ke P (Str.ofString "EXPLICIT") 585 (Value.int 1 581)), (ke P (Str.ofString "ACCENT_KERN") 586 (Value.int 2 582)), (ke P (Str.ofString "MU_KERN") 587 (Value.int 3 583)), (ke P (Str.ofString "check_code") 594 (Value.ref 278)), (ke P (Str.ofString "Char") 626 (Value.ref 295)), (ke P (Str.ofString "Ligature") 658 (Value.ref 315))]) 54) (List.toArray []))
noncomputable def o204 (P : Params) : Obj := (Obj.mk Value.none none (Data.fields (List.toArray [(Value.int 1 0), (Value.int 0 0), (Value.ref 20), (Value.int 5 0), (Value.int 0 0), (Value.ref 27), (Value.int 9 0), (Value.int 0 0), (Value.ref 48), (Value.int 11 0), (Value.int 0 0), (Value.ref 60), (Value.int 13 0), (Value.int 0 0), (Value.ref 72), (Value.int 15 0), (Value.int 0 0), (Value.ref 84), (Value.int 19 0), (Value.int 0 0), (Value.ref 96), (Value.int 21 0), (Value.int 0 0), (Value.ref 103), (Value.int 25 0), (Value.int 0 0), (Value.ref 110), (Value.int 37 0), (Value.int 0 0), (Value.ref 126), (Value.int 39 0), (Value.int 0 0), (Value.ref 133), (Value.int 43 0), (Value.int 0 0), (Value.ref 140), (Value.int 49 0), (Value.int 0 0), (Value.ref 147), (Value.int 61 0), (Value.int 0 0), (Value.ref 154), (Value.int 69 0), (Value.int 0 0), (Value.ref 161), (Value.int 88 0), (Value.int 0 0), (Value.ref 168), (Value.int 93 0), (Value.int 0 0), (Value.ref 175), (Value.int 156 0), (Value.int 0 0), (Value.ref 277), (Value.int 160 0), (Value.int 0 0), (Value.ref 284), (Value.int 166 0), (Value.int 0 0), (Value.ref 305)])) (List.toArray []))
noncomputable def o205 (P : Params) : Obj := (Obj.mk (Value.type "dict") none (Data.dict (List.toArray [(ke P (Str.ofString "__module__") 634 (Value.str (Str.ofString "gluepage.nodes") 562)), (ke P (Str.ofString "__qualname__") 636 (Value.str (Str.ofString "Ligature") 635)), (ke P (Str.ofString "__firstlineno__") 638 (Value.int 166 637)), (ke P (Str.ofString "kind") 639 (Value.int 1 565)), (ke P (Str.ofString "__init__") 645 (Value.ref 312)), (ke P (Str.ofString "__static_attributes__") 651 (Value.ref 313))]) 6) (List.toArray []))
noncomputable def o206 (P : Params) : Obj := (Obj.mk Value.none none (Data.fields (List.toArray [(Value.int 169 0), (Value.int 4 0), (Value.ref 311)])) (List.toArray []))
noncomputable def o207 (P : Params) : Obj := (Obj.mk (Value.type "code") none (Data.fields (List.toArray [(Value.str (Str.ofString "Ligature") 629), (Value.str (Str.ofString "Ligature") 630), (Value.str (Str.ofString "/claim/cut.py") 631), (Value.int 166 0), (Value.int 0 0), (Value.int 0 0), (Value.int 0 0), (Value.int 0 0), (Value.ref 303), (Value.bool false), (Value.int 181 0), (Value.ref 304), Value.none, Value.none, Value.none, Value.none, (Value.int 632 0), (Value.int 166 0), (Value.str (Str.ofString "/claim/cut.py") 633)])) (List.toArray []))
noncomputable def o208 (P : Params) : Obj := (Obj.mk (Value.type "frame") none Data.plain (List.toArray [(some (Value.ref 305)), (some (Value.ref 3)), (some (Value.ref 302)), none, (some (Value.str (Str.ofString "gluepage.nodes") 562)), none, (some (Value.ref 0))]))
noncomputable def o209 (P : Params) : Obj := (Obj.mk (Value.type "tuple") none (Data.seq (List.toArray [(Value.bool false), (Value.bool false)]) 0) (List.toArray []))
noncomputable def o210 (P : Params) : Obj := (Obj.mk Value.none none (Data.func (FuncData.mk (Str.ofString "__init__") (Str.ofString "Ligature.__init__") (fnA (pI (clB (pI pB 33)) 1)) (.stmts (fnB (pI (clB (pI pB 33)) 1))) (fnS (pI (clB (pI pB 33)) 1)) 0 [] Value.none Value.none Value.none Value.none none Value.none Value.none 0)) (List.toArray []))
noncomputable def o211 (P : Params) : Obj := (Obj.mk (Value.type "code") none (Data.fields (List.toArray [(Value.str (Str.ofString "__init__") 640), (Value.str (Str.ofString "Ligature.__init__") 641), (Value.str (Str.ofString "/claim/cut.py") 642), (Value.int 169 0), (Value.int 6 0), (Value.int 0 0), (Value.int 0 0), (Value.int 3 0), (Value.ref 308), (Value.bool true), (Value.int 181 0), (Value.ref 309), Value.none, Value.none, Value.none, (Value.ref 310), (Value.int 643 0), (Value.int 169 0), (Value.str (Str.ofString "/claim/cut.py") 644)])) (List.toArray []))
noncomputable def o212 (P : Params) : Obj := (Obj.mk (Value.type "function") none (Data.func (FuncData.mk (Str.ofString "__init__") (Str.ofString "Ligature.__init__") (fnA (pI (clB (pI pB 33)) 1)) (.stmts (fnB (pI (clB (pI pB 33)) 1))) (fnS (pI (clB (pI pB 33)) 1)) 3 [] (Value.ref 307) Value.none Value.none (Value.str (Str.ofString "gluepage.nodes") 562) none (Value.ref 311) Value.none 0)) (List.toArray []))
noncomputable def o213 (P : Params) : Obj := (Obj.mk (Value.type "tuple") none (Data.seq (List.toArray [(Value.str (Str.ofString "code") 646), (Value.str (Str.ofString "font") 647), (Value.str (Str.ofString "left") 648), (Value.str (Str.ofString "parts") 649), (Value.str (Str.ofString "right") 650)]) 0) (List.toArray []))
noncomputable def o214 (P : Params) : Obj := (Obj.mk (Value.type "dict") none (Data.dict (List.toArray [(ke P (Str.ofString "__module__") 634 (Value.str (Str.ofString "gluepage.nodes") 562)), (ke P (Str.ofString "__firstlineno__") 638 (Value.int 166 637)), (ke P (Str.ofString "kind") 639 (Value.int 1 565)), (ke P (Str.ofString "__init__") 645 (Value.ref 312)), (ke P (Str.ofString "__static_attributes__") 651 (Value.ref 313)), (ke P (Str.ofString "__dict__") 653 (Value.ref 316)), (ke P (Str.ofString "__weakref__") 655 (Value.ref 317)), (ke P (Str.ofString "__doc__") 656 Value.none)]) 4) (List.toArray []))
noncomputable def o215 (P : Params) : Obj := (Obj.mk (Value.type "type") none (Data.cls (ClassData.mk (Str.ofString "Ligature") [(Value.type "object")] [(Value.ref 315), (Value.type "object")] 314 (Str.ofString "Ligature") true [] [] false none false)) (List.toArray [none, none, (some (Value.str (Str.ofString "Ligature") 627)), (some (Value.str (Str.ofString "Ligature") 635)), (some (Value.builtin "object.__new__")), (some (Value.bool true))]))
noncomputable def o216 (P : Params) : Obj := (Obj.mk (Value.type "getset_descriptor") none (Data.fields (List.toArray [(Value.str (Str.ofString "__dict__") 652), (Value.ref 315), (Value.builtin "function.__dict__"), (Value.builtin "function.__dict__#set")])) (List.toArray []))
noncomputable def o217 (P : Params) : Obj := (Obj.mk (Value.type "getset_descriptor") none (Data.fields (List.toArray [(Value.str (Str.ofString "__weakref__") 654), (Value.ref 315), (Value.builtin "ExceptionGroup.__weakref__"), Value.none])) (List.toArray []))
noncomputable def o218 (P : Params) : Obj := (Obj.mk (Value.type "super") none (Data.fields (List.toArray [(Value.ref 315), (Value.ref 315), (Value.ref 315)])) (List.toArray []))
noncomputable def o219 (P : Params) : Obj := (Obj.mk (Value.type "builtin_function_or_method") none (Data.fields (List.toArray [(Value.builtin "object.__init_subclass__"), (Value.ref 315)])) (List.toArray []))
noncomputable def o220 (P : Params) : Obj := (Obj.mk (Value.type "dict") none (Data.dict (List.toArray [(ke P (Str.ofString "__name__") 165 (Value.str (Str.ofString "gluepage.ligkern") 691)), (ke P (Str.ofString "__doc__") 166 Value.none), (ke P (Str.ofString "__package__") 167 Value.none), (ke P (Str.ofString "__loader__") 168 (Value.builtin "__main__.__loader__#opaque")), (ke P (Str.ofString "__spec__") 169 Value.none), (ke P (Str.ofString "__annotations__") 170 (Value.ref 6)), (ke P (Str.ofString "__builtins__") 171 (Value.ref 4)), (ke P (Str.ofString "__file__") 173 (Value.str (Str.ofString "/claim/cut.py") 172)), (ke P (Str.ofString "__cached__") 174 Value.none), (ke P (Str.ofString "_wall") 193 (Value.ref 21)), (ke P (Str.ofString "PageError") 223 (Value.ref 39)), (ke P (Str.ofString "BadArgument") 239 (Value.ref 52)), (ke P (Str.ofString "Overflow") 255 (Value.ref 64)), (ke P (Str.ofString "BadFont") 271 (Value.ref 76)), (ke P (Str.ofString "TooMuch") 287 (Value.ref 88)), (ke P (Str.ofString "MAX_DIMEN") 295 (Value.int 1073741823 294)), (ke P (Str.ofString "is_whole") 304 (Value.ref 97)), (ke P (Str.ofString "check_whole") 311 (Value.ref 104)), (ke P (Str.ofString "check_dimen") 318 (Value.ref 111)), (ke P (Str.ofString "EDGE") 322 (Value.int 256 321)), (ke P (Str.ofString "MOST_FONTS") 324 (Value.int 255 323)), (ke P (Str.ofString "MOST_PARAMS") 326 (Value.int 64 325)), (ke P (Str.ofString "MOST_SIZE") 332 (Value.int 134217727 331)), (ke P (Str.ofString "PLAIN_SORT") 337 (Value.int 0 333)), (ke P (Str.ofString "PROGRAM_SORT") 338 (Value.int 1 334)), (ke P (Str.ofString "LARGER_SORT") 339 (Value.int 2 335)), (ke P (Str.ofString "PIECES_SORT") 340 (Value.int 3 336)), (ke P (Str.ofString "STOP_SKIP") 344 (Value.int 128 341)), (ke P (Str.ofString "KERN_OP") 345 (Value.int 128 342)), (ke P (Str.ofString "LEAD") 346 (Value.int 255 343)), (ke P (Str.ofString "NO_CHARACTER") 353 (Value.ref 120)), (ke P (Str.ofString "is_size") 360 (Value.ref 127)), (ke P (Str.ofString "check_sizes") 368 (Value.ref 134)), (ke P (Str.ofString "check_pieces") 378 (Value.ref 141)), (ke P (Str.ofString "check_chars") 390 (Value.ref 148)), (ke P (Str.ofString "check_larger") 400 (Value.ref 155)), (ke P (Str.ofString "check_program") 418 (Value.ref 162)), (ke P (Str.ofString "left_start") 429 (Value.ref 169)), (ke P (Str.ofString "Font") 561 (Value.ref 259)), (ke P (Str.ofString "CHAR") 572 (Value.int 0 564)), (ke P (Str.ofString "LIGATURE") 573 (Value.int 1 565)), (ke P (Str.ofString "HBOX") 574 (Value.int 2 566)), (ke P (Str.ofString "VBOX") 575 (Value.int 3 567)), (ke P (Str.ofString "RULE") 576 (Value.int 4 568)), (ke P (Str.ofString "KERN") 577 (Value.int 5 569)), (ke P (Str.ofString "GLUE") 578 (Value.int 6 570)), (ke P (Str.ofString "PENALTY") 579 (Value.int 7 571)), (ke P (Str.ofString "FONT_KERN") 584 (Value.int 0 580)), (ke P (Str.ofString "EXPLICIT") 585 (Value.int 1 581)), (ke P (Str.ofString "ACCENT_KERN") 586 (Value.int 2 582)), (ke P (Str.ofString "MU_KERN") 587 (Value.int 3 583)), (ke P (Str.ofString "check_code") 594 (Value.ref 278)), (ke P (Str.ofString "Char") 626 (Value.ref 295)), (ke P (Str.ofString "Ligature") 658 (Value.ref 315)), (ke P (Str.ofString "Kern") 690 (Value.ref 336)), (ke P (Str.ofString "KNOWN_OPS") 701 (Value.ref 341)), (ke P (Str.ofString "STEPS") 703 (Value.int 20 702)), (ke P (Str.ofString "look") 719 (Value.ref 348))]) 58) (List.toArray []))
noncomputable def o221 (P : Params) : Obj := (Obj.mk Value.none none (Data.fields (List.toArray [(Value.int 1 0), (Value.int 0 0), (Value.ref 20), (Value.int 5 0), (Value.int 0 0), (Value.ref 27), (Value.int 9 0), (Value.int 0 0), (Value.ref 48), (Value.int 11 0), (Value.int 0 0), (Value.ref 60), (Value.int 13 0), (Value.int 0 0), (Value.ref 72), (Value.int 15 0), (Value.int 0 0), (Value.ref 84), (Value.int 19 0), (Value.int 0 0), (Value.ref 96), (Value.int 21 0), (Value.int 0 0), (Value.ref 103), (Value.int 25 0), (Value.int 0 0), (Value.ref 110), (Value.int 37 0), (Value.int 0 0), (Value.ref 126), (Value.int 39 0), (Value.int 0 0), (Value.ref 133), (Value.int 43 0), (Value.int 0 0), (Value.ref 140), (Value.int 49 0), (Value.int 0 0), (Value.ref 147), (Value.int 61 0), (Value.int 0 0), (Value.ref 154), (Value.int 69 0), (Value.int 0 0), (Value.ref 161), (Value.int 88 0), (Value.int 0 0), (Value.ref 168), (Value.int 93 0), (Value.int 0 0), (Value.ref 175), (Value.int 156 0), (Value.int 0 0), (Value.ref 277), (Value.int 160 0), (Value.int 0 0), (Value.ref 284), (Value.int 166 0), (Value.int 0 0), (Value.ref 305), (Value.int 175 0), (Value.int 0 0), (Value.ref 325), (Value.int 186 0), (Value.int 0 0), (Value.ref 347)])) (List.toArray []))
noncomputable def o222 (P : Params) : Obj := (Obj.mk (Value.type "dict") none (Data.dict (List.toArray [(ke P (Str.ofString "__module__") 666 (Value.str (Str.ofString "gluepage.nodes") 562)), (ke P (Str.ofString "__qualname__") 668 (Value.str (Str.ofString "Kern") 667)), (ke P (Str.ofString "__firstlineno__") 670 (Value.int 175 669)), (ke P (Str.ofString "kind") 671 (Value.int 5 569)), (ke P (Str.ofString "__init__") 680 (Value.ref 333)), (ke P (Str.ofString "__static_attributes__") 683 (Value.ref 334))]) 6) (List.toArray []))
noncomputable def o223 (P : Params) : Obj := (Obj.mk Value.none none (Data.fields (List.toArray [(Value.int 178 0), (Value.int 4 0), (Value.ref 332)])) (List.toArray []))
noncomputable def o224 (P : Params) : Obj := (Obj.mk (Value.type "code") none (Data.fields (List.toArray [(Value.str (Str.ofString "Kern") 661), (Value.str (Str.ofString "Kern") 662), (Value.str (Str.ofString "/claim/cut.py") 663), (Value.int 175 0), (Value.int 0 0), (Value.int 0 0), (Value.int 0 0), (Value.int 0 0), (Value.ref 323), (Value.bool false), (Value.int 181 0), (Value.ref 324), Value.none, Value.none, Value.none, Value.none, (Value.int 664 0), (Value.int 175 0), (Value.str (Str.ofString "/claim/cut.py") 665)])) (List.toArray []))
noncomputable def o225 (P : Params) : Obj := (Obj.mk (Value.type "frame") none Data.plain (List.toArray [(some (Value.ref 325)), (some (Value.ref 3)), (some (Value.ref 322)), none, (some (Value.str (Str.ofString "gluepage.nodes") 562)), none, (some (Value.ref 0))]))
noncomputable def o226 (P : Params) : Obj := (Obj.mk (Value.type "tuple") none (Data.seq (List.toArray [(Value.str (Str.ofString "self") 675), (Value.str (Str.ofString "width") 676), (Value.str (Str.ofString "sort") 677)]) 0) (List.toArray []))
noncomputable def o227 (P : Params) : Obj := (Obj.mk Value.none none (Data.func (FuncData.mk (Str.ofString "__init__") (Str.ofString "Kern.__init__") (fnA (pI (clB (pI pB 34)) 1)) (.stmts (fnB (pI (clB (pI pB 34)) 1))) (fnS (pI (clB (pI pB 34)) 1)) 0 [] Value.none Value.none Value.none Value.none none Value.none Value.none 0)) (List.toArray []))
noncomputable def o228 (P : Params) : Obj := (Obj.mk (Value.type "code") none (Data.fields (List.toArray [(Value.str (Str.ofString "__init__") 672), (Value.str (Str.ofString "Kern.__init__") 673), (Value.str (Str.ofString "/claim/cut.py") 674), (Value.int 178 0), (Value.int 3 0), (Value.int 0 0), (Value.int 0 0), (Value.int 3 0), (Value.ref 327), (Value.bool true), (Value.int 181 0), (Value.ref 328), Value.none, (Value.ref 329), (Value.ref 330), (Value.ref 331), (Value.int 678 0), (Value.int 178 0), (Value.str (Str.ofString "/claim/cut.py") 679)])) (List.toArray []))
noncomputable def o229 (P : Params) : Obj := (Obj.mk (Value.type "function") none (Data.func (FuncData.mk (Str.ofString "__init__") (Str.ofString "Kern.__init__") (fnA (pI (clB (pI pB 34)) 1)) (.stmts (fnB (pI (clB (pI pB 34)) 1))) (fnS (pI (clB (pI pB 34)) 1)) 3 [] Value.none Value.none Value.none (Value.str (Str.ofString "gluepage.nodes") 562) none (Value.ref 332) Value.none 0)) (List.toArray []))
noncomputable def o230 (P : Params) : Obj := (Obj.mk (Value.type "tuple") none (Data.seq (List.toArray [(Value.str (Str.ofString "sort") 681), (Value.str (Str.ofString "width") 682)]) 0) (List.toArray []))
noncomputable def o231 (P : Params) : Obj := (Obj.mk (Value.type "dict") none (Data.dict (List.toArray [(ke P (Str.ofString "__module__") 666 (Value.str (Str.ofString "gluepage.nodes") 562)), (ke P (Str.ofString "__firstlineno__") 670 (Value.int 175 669)), (ke P (Str.ofString "kind") 671 (Value.int 5 569)), (ke P (Str.ofString "__init__") 680 (Value.ref 333)), (ke P (Str.ofString "__static_attributes__") 683 (Value.ref 334)), (ke P (Str.ofString "__dict__") 685 (Value.ref 337)), (ke P (Str.ofString "__weakref__") 687 (Value.ref 338)), (ke P (Str.ofString "__doc__") 688 Value.none)]) 4) (List.toArray []))
noncomputable def o232 (P : Params) : Obj := (Obj.mk (Value.type "type") none (Data.cls (ClassData.mk (Str.ofString "Kern") [(Value.type "object")] [(Value.ref 336), (Value.type "object")] 335 (Str.ofString "Kern") true [] [] false none false)) (List.toArray [none, none, (some (Value.str (Str.ofString "Kern") 659)), (some (Value.str (Str.ofString "Kern") 667)), (some (Value.builtin "object.__new__")), (some (Value.bool true))]))
noncomputable def o233 (P : Params) : Obj := (Obj.mk (Value.type "getset_descriptor") none (Data.fields (List.toArray [(Value.str (Str.ofString "__dict__") 684), (Value.ref 336), (Value.builtin "function.__dict__"), (Value.builtin "function.__dict__#set")])) (List.toArray []))
noncomputable def o234 (P : Params) : Obj := (Obj.mk (Value.type "getset_descriptor") none (Data.fields (List.toArray [(Value.str (Str.ofString "__weakref__") 686), (Value.ref 336), (Value.builtin "ExceptionGroup.__weakref__"), Value.none])) (List.toArray []))
noncomputable def o235 (P : Params) : Obj := (Obj.mk (Value.type "super") none (Data.fields (List.toArray [(Value.ref 336), (Value.ref 336), (Value.ref 336)])) (List.toArray []))
noncomputable def o236 (P : Params) : Obj := (Obj.mk (Value.type "builtin_function_or_method") none (Data.fields (List.toArray [(Value.builtin "object.__init_subclass__"), (Value.ref 336)])) (List.toArray []))
noncomputable def o237 (P : Params) : Obj := (Obj.mk (Value.type "tuple") none (Data.seq (List.toArray [(Value.int 0 693), (Value.int 1 694), (Value.int 2 695), (Value.int 3 696), (Value.int 5 697), (Value.int 6 698), (Value.int 7 699), (Value.int 11 700)]) 0) (List.toArray []))
noncomputable def o238 (P : Params) : Obj := (Obj.mk (Value.type "tuple") none (Data.seq (List.toArray [(Value.str (Str.ofString "font") 707), (Value.str (Str.ofString "left") 708), (Value.str (Str.ofString "right") 709), (Value.str (Str.ofString "place") 710), (Value.str (Str.ofString "program") 711), (Value.str (Str.ofString "going") 712), (Value.str (Str.ofString "skip") 713), (Value.str (Str.ofString "following") 714), (Value.str (Str.ofString "op") 715), (Value.str (Str.ofString "rest") 716)]) 0) (List.toArray []))
noncomputable def o239 (P : Params) : Obj := (Obj.mk Value.none none (Data.func (FuncData.mk (Str.ofString "look") (Str.ofString "look") (fnA (pI pB 38)) (.stmts (fnB (pI pB 38))) (fnS (pI pB 38)) 0 [] Value.none Value.none Value.none Value.none none Value.none Value.none 0)) (List.toArray []))
noncomputable def o240 (P : Params) : Obj := (Obj.mk (Value.type "code") none (Data.fields (List.toArray [(Value.str (Str.ofString "look") 704), (Value.str (Str.ofString "look") 705), (Value.str (Str.ofString "/claim/cut.py") 706), (Value.int 186 0), (Value.int 3 0), (Value.int 0 0), (Value.int 0 0), (Value.int 3 0), (Value.ref 342), (Value.bool true), (Value.int 181 0), (Value.ref 343), Value.none, (Value.ref 344), (Value.ref 345), (Value.ref 346), (Value.int 717 0), (Value.int 186 0), (Value.str (Str.ofString "/claim/cut.py") 718)])) (List.toArray []))
noncomputable def o241 (P : Params) : Obj := (Obj.mk (Value.type "function") none (Data.func (FuncData.mk (Str.ofString "look") (Str.ofString "look") (fnA (pI pB 38)) (.stmts (fnB (pI pB 38))) (fnS (pI pB 38)) 3 [] Value.none Value.none Value.none (Value.str (Str.ofString "gluepage.ligkern") 691) none (Value.ref 347) Value.none 0)) (List.toArray []))
noncomputable def o242 (P : Params) : Obj := (Obj.mk (Value.type "dict") none (Data.dict (List.toArray [(ke P (Str.ofString "__name__") 165 (Value.str (Str.ofString "gluepage.ligkern") 691)), (ke P (Str.ofString "__doc__") 166 Value.none), (ke P (Str.ofString "__package__") 167 Value.none), (ke P (Str.ofString "__loader__") 168 (Value.builtin "__main__.__loader__#opaque")), (ke P (Str.ofString "__spec__") 169 Value.none), (ke P (Str.ofString "__annotations__") 170 (Value.ref 6)), (ke P (Str.ofString "__builtins__") 171 (Value.ref 4)), (ke P (Str.ofString "__file__") 173 (Value.str (Str.ofString "/claim/cut.py") 172)), (ke P (Str.ofString "__cached__") 174 Value.none), (ke P (Str.ofString "_wall") 193 (Value.ref 21)), (ke P (Str.ofString "PageError") 223 (Value.ref 39)), (ke P (Str.ofString "BadArgument") 239 (Value.ref 52)), (ke P (Str.ofString "Overflow") 255 (Value.ref 64)), (ke P (Str.ofString "BadFont") 271 (Value.ref 76)), (ke P (Str.ofString "TooMuch") 287 (Value.ref 88)), (ke P (Str.ofString "MAX_DIMEN") 295 (Value.int 1073741823 294)), (ke P (Str.ofString "is_whole") 304 (Value.ref 97)), (ke P (Str.ofString "check_whole") 311 (Value.ref 104)), (ke P (Str.ofString "check_dimen") 318 (Value.ref 111)), (ke P (Str.ofString "EDGE") 322 (Value.int 256 321)), (ke P (Str.ofString "MOST_FONTS") 324 (Value.int 255 323)), (ke P (Str.ofString "MOST_PARAMS") 326 (Value.int 64 325)), (ke P (Str.ofString "MOST_SIZE") 332 (Value.int 134217727 331)), (ke P (Str.ofString "PLAIN_SORT") 337 (Value.int 0 333)), (ke P (Str.ofString "PROGRAM_SORT") 338 (Value.int 1 334)), (ke P (Str.ofString "LARGER_SORT") 339 (Value.int 2 335)), (ke P (Str.ofString "PIECES_SORT") 340 (Value.int 3 336)), (ke P (Str.ofString "STOP_SKIP") 344 (Value.int 128 341)), (ke P (Str.ofString "KERN_OP") 345 (Value.int 128 342)), (ke P (Str.ofString "LEAD") 346 (Value.int 255 343)), (ke P (Str.ofString "NO_CHARACTER") 353 (Value.ref 120)), (ke P (Str.ofString "is_size") 360 (Value.ref 127)), (ke P (Str.ofString "check_sizes") 368 (Value.ref 134)), (ke P (Str.ofString "check_pieces") 378 (Value.ref 141)), (ke P (Str.ofString "check_chars") 390 (Value.ref 148)), (ke P (Str.ofString "check_larger") 400 (Value.ref 155)), (ke P (Str.ofString "check_program") 418 (Value.ref 162)), (ke P (Str.ofString "left_start") 429 (Value.ref 169)), (ke P (Str.ofString "Font") 561 (Value.ref 259)), (ke P (Str.ofString "CHAR") 572 (Value.int 0 564)), (ke P (Str.ofString "LIGATURE") 573 (Value.int 1 565)), (ke P (Str.ofString "HBOX") 574 (Value.int 2 566)), (ke P (Str.ofString "VBOX") 575 (Value.int 3 567)), (ke P (Str.ofString "RULE") 576 (Value.int 4 568)), (ke P (Str.ofString "KERN") 577 (Value.int 5 569)), (ke P (Str.ofString "GLUE") 578 (Value.int 6 570)), (ke P (Str.ofString "PENALTY") 579 (Value.int 7 571)), (ke P (Str.ofString "FONT_KERN") 584 (Value.int 0 580)), (ke P (Str.ofString "EXPLICIT") 585 (Value.int 1 581)), (ke P (Str.ofString "ACCENT_KERN") 586 (Value.int 2 582)), (ke P (Str.ofString "MU_KERN") 587 (Value.int 3 583)), (ke P (Str.ofString "check_code") 594 (Value.ref 278)), (ke P (Str.ofString "Char") 626 (Value.ref 295)), (ke P (Str.ofString "Ligature") 658 (Value.ref 315)), (ke P (Str.ofString "Kern") 690 (Value.ref 336)), (ke P (Str.ofString "KNOWN_OPS") 701 (Value.ref 341)), (ke P (Str.ofString "STEPS") 703 (Value.int 20 702)), (ke P (Str.ofString "look") 719 (Value.ref 348)), (ke P (Str.ofString "Word") 753 (Value.ref 363)), (ke P (Str.ofString "leave") 763 (Value.ref 374)), (ke P (Str.ofString "pass_on") 770 (Value.ref 381)), (ke P (Str.ofString "put_between") 786 (Value.ref 388)), (ke P (Str.ofString "word_nodes") 801 (Value.ref 395)), (ke P (Str.ofString "run") 815 (Value.ref 403))]) 64) (List.toArray []))
noncomputable def o243 (P : Params) : Obj := (Obj.mk Value.none none (Data.fields (List.toArray [(Value.int 1 0), (Value.int 0 0), (Value.ref 20), (Value.int 5 0), (Value.int 0 0), (Value.ref 27), (Value.int 9 0), (Value.int 0 0), (Value.ref 48), (Value.int 11 0), (Value.int 0 0), (Value.ref 60), (Value.int 13 0), (Value.int 0 0), (Value.ref 72), (Value.int 15 0), (Value.int 0 0), (Value.ref 84), (Value.int 19 0), (Value.int 0 0), (Value.ref 96), (Value.int 21 0), (Value.int 0 0), (Value.ref 103), (Value.int 25 0), (Value.int 0 0), (Value.ref 110), (Value.int 37 0), (Value.int 0 0), (Value.ref 126), (Value.int 39 0), (Value.int 0 0), (Value.ref 133), (Value.int 43 0), (Value.int 0 0), (Value.ref 140), (Value.int 49 0), (Value.int 0 0), (Value.ref 147), (Value.int 61 0), (Value.int 0 0), (Value.ref 154), (Value.int 69 0), (Value.int 0 0), (Value.ref 161), (Value.int 88 0), (Value.int 0 0), (Value.ref 168), (Value.int 93 0), (Value.int 0 0), (Value.ref 175), (Value.int 156 0), (Value.int 0 0), (Value.ref 277), (Value.int 160 0), (Value.int 0 0), (Value.ref 284), (Value.int 166 0), (Value.int 0 0), (Value.ref 305), (Value.int 175 0), (Value.int 0 0), (Value.ref 325), (Value.int 186 0), (Value.int 0 0), (Value.ref 347), (Value.int 203 0), (Value.int 0 0), (Value.ref 354), (Value.int 214 0), (Value.int 0 0), (Value.ref 373), (Value.int 223 0), (Value.int 0 0), (Value.ref 380), (Value.int 229 0), (Value.int 0 0), (Value.ref 387), (Value.int 249 0), (Value.int 0 0), (Value.ref 394), (Value.int 269 0), (Value.int 0 0), (Value.ref 402)])) (List.toArray []))
noncomputable def o244 (P : Params) : Obj := (Obj.mk (Value.type "dict") none (Data.dict (List.toArray [(ke P (Str.ofString "__module__") 727 (Value.str (Str.ofString "gluepage.ligkern") 691)), (ke P (Str.ofString "__qualname__") 729 (Value.str (Str.ofString "Word") 728)), (ke P (Str.ofString "__firstlineno__") 731 (Value.int 203 730)), (ke P (Str.ofString "__init__") 737 (Value.ref 360)), (ke P (Str.ofString "__static_attributes__") 746 (Value.ref 361))]) 5) (List.toArray []))
noncomputable def o245 (P : Params) : Obj := (Obj.mk Value.none none (Data.fields (List.toArray [(Value.int 205 0), (Value.int 4 0), (Value.ref 359)])) (List.toArray []))
noncomputable def o246 (P : Params) : Obj := (Obj.mk (Value.type "code") none (Data.fields (List.toArray [(Value.str (Str.ofString "Word") 722), (Value.str (Str.ofString "Word") 723), (Value.str (Str.ofString "/claim/cut.py") 724), (Value.int 203 0), (Value.int 0 0), (Value.int 0 0), (Value.int 0 0), (Value.int 0 0), (Value.ref 352), (Value.bool false), (Value.int 181 0), (Value.ref 353), Value.none, Value.none, Value.none, Value.none, (Value.int 725 0), (Value.int 203 0), (Value.str (Str.ofString "/claim/cut.py") 726)])) (List.toArray []))
noncomputable def o247 (P : Params) : Obj := (Obj.mk (Value.type "frame") none Data.plain (List.toArray [(some (Value.ref 354)), (some (Value.ref 3)), (some (Value.ref 351)), none, (some (Value.str (Str.ofString "gluepage.ligkern") 691)), none, (some (Value.ref 0))]))
noncomputable def o248 (P : Params) : Obj := (Obj.mk Value.none none (Data.func (FuncData.mk (Str.ofString "__init__") (Str.ofString "Word.__init__") (fnA (pI (clB (pI pB 39)) 0)) (.stmts (fnB (pI (clB (pI pB 39)) 0))) (fnS (pI (clB (pI pB 39)) 0)) 0 [] Value.none Value.none Value.none Value.none none Value.none Value.none 0)) (List.toArray []))
noncomputable def o249 (P : Params) : Obj := (Obj.mk (Value.type "code") none (Data.fields (List.toArray [(Value.str (Str.ofString "__init__") 732), (Value.str (Str.ofString "Word.__init__") 733), (Value.str (Str.ofString "/claim/cut.py") 734), (Value.int 205 0), (Value.int 5 0), (Value.int 0 0), (Value.int 0 0), (Value.int 3 0), (Value.ref 356), (Value.bool true), (Value.int 181 0), (Value.ref 357), Value.none, Value.none, Value.none, (Value.ref 358), (Value.int 735 0), (Value.int 205 0), (Value.str (Str.ofString "/claim/cut.py") 736)])) (List.toArray []))
noncomputable def o250 (P : Params) : Obj := (Obj.mk (Value.type "function") none (Data.func (FuncData.mk (Str.ofString "__init__") (Str.ofString "Word.__init__") (fnA (pI (clB (pI pB 39)) 0)) (.stmts (fnB (pI (clB (pI pB 39)) 0))) (fnS (pI (clB (pI pB 39)) 0)) 3 [] Value.none Value.none Value.none (Value.str (Str.ofString "gluepage.ligkern") 691) none (Value.ref 359) Value.none 0)) (List.toArray []))
noncomputable def o251 (P : Params) : Obj := (Obj.mk (Value.type "tuple") none (Data.seq (List.toArray [(Value.str (Str.ofString "edge") 738), (Value.str (Str.ofString "font") 739), (Value.str (Str.ofString "found") 740), (Value.str (Str.ofString "hit_left") 741), (Value.str (Str.ofString "hit_right") 742), (Value.str (Str.ofString "is_going") 743), (Value.str (Str.ofString "now") 744), (Value.str (Str.ofString "waiting") 745)]) 0) (List.toArray []))
noncomputable def o252 (P : Params) : Obj := (Obj.mk (Value.type "dict") none (Data.dict (List.toArray [(ke P (Str.ofString "__module__") 727 (Value.str (Str.ofString "gluepage.ligkern") 691)), (ke P (Str.ofString "__firstlineno__") 731 (Value.int 203 730)), (ke P (Str.ofString "__init__") 737 (Value.ref 360)), (ke P (Str.ofString "__static_attributes__") 746 (Value.ref 361)), (ke P (Str.ofString "__dict__") 748 (Value.ref 364)), (ke P (Str.ofString "__weakref__") 750 (Value.ref 365)), (ke P (Str.ofString "__doc__") 751 Value.none)]) 4) (List.toArray []))
noncomputable def o253 (P : Params) : Obj := (Obj.mk (Value.type "type") none (Data.cls (ClassData.mk (Str.ofString "Word") [(Value.type "object")] [(Value.ref 363), (Value.type "object")] 362 (Str.ofString "Word") true [] [] false none false)) (List.toArray [none, none, (some (Value.str (Str.ofString "Word") 720)), (some (Value.str (Str.ofString "Word") 728)), (some (Value.builtin "object.__new__")), (some (Value.bool true))]))
noncomputable def o254 (P : Params) : Obj := (Obj.mk (Value.type "getset_descriptor") none (Data.fields (List.toArray [(Value.str (Str.ofString "__dict__") 747), (Value.ref 363), (Value.builtin "function.__dict__"), (Value.builtin "function.__dict__#set")])) (List.toArray []))
noncomputable def o255 (P : Params) : Obj := (Obj.mk (Value.type "getset_descriptor") none (Data.fields (List.toArray [(Value.str (Str.ofString "__weakref__") 749), (Value.ref 363), (Value.builtin "ExceptionGroup.__weakref__"), Value.none])) (List.toArray []))
noncomputable def o256 (P : Params) : Obj := (Obj.mk (Value.type "super") none (Data.fields (List.toArray [(Value.ref 363), (Value.ref 363), (Value.ref 363)])) (List.toArray []))
noncomputable def o257 (P : Params) : Obj := (Obj.mk (Value.type "builtin_function_or_method") none (Data.fields (List.toArray [(Value.builtin "object.__init_subclass__"), (Value.ref 363)])) (List.toArray []))
noncomputable def o258 (P : Params) : Obj := (Obj.mk (Value.type "tuple") none (Data.seq (List.toArray [(Value.str (Str.ofString "word") 757), (Value.str (Str.ofString "code") 758), (Value.str (Str.ofString "parts") 759), (Value.str (Str.ofString "is_made") 760)]) 0) (List.toArray []))
noncomputable def o259 (P : Params) : Obj := (Obj.mk Value.none none (Data.func (FuncData.mk (Str.ofString "leave") (Str.ofString "leave") (fnA (pI pB 40)) (.stmts (fnB (pI pB 40))) (fnS (pI pB 40)) 0 [] Value.none Value.none Value.none Value.none none Value.none Value.none 0)) (List.toArray []))
noncomputable def o260 (P : Params) : Obj := (Obj.mk (Value.type "code") none (Data.fields (List.toArray [(Value.str (Str.ofString "leave") 754), (Value.str (Str.ofString "leave") 755), (Value.str (Str.ofString "/claim/cut.py") 756), (Value.int 214 0), (Value.int 1 0), (Value.int 0 0), (Value.int 0 0), (Value.int 3 0), (Value.ref 368), (Value.bool true), (Value.int 181 0), (Value.ref 369), Value.none, (Value.ref 370), (Value.ref 371), (Value.ref 372), (Value.int 761 0), (Value.int 214 0), (Value.str (Str.ofString "/claim/cut.py") 762)])) (List.toArray []))
noncomputable def o261 (P : Params) : Obj := (Obj.mk (Value.type "function") none (Data.func (FuncData.mk (Str.ofString "leave") (Str.ofString "leave") (fnA (pI pB 40)) (.stmts (fnB (pI pB 40))) (fnS (pI pB 40)) 3 [] Value.none Value.none Value.none (Value.str (Str.ofString "gluepage.ligkern") 691) none (Value.ref 373) Value.none 0)) (List.toArray []))
noncomputable def o262 (P : Params) : Obj := (Obj.mk (Value.type "tuple") none (Data.seq (List.toArray [(Value.str (Str.ofString "word") 767)]) 0) (List.toArray []))
noncomputable def o263 (P : Params) : Obj := (Obj.mk Value.none none (Data.func (FuncData.mk (Str.ofString "pass_on") (Str.ofString "pass_on") (fnA (pI pB 41)) (.stmts (fnB (pI pB 41))) (fnS (pI pB 41)) 0 [] Value.none Value.none Value.none Value.none none Value.none Value.none 0)) (List.toArray []))
noncomputable def o264 (P : Params) : Obj := (Obj.mk (Value.type "code") none (Data.fields (List.toArray [(Value.str (Str.ofString "pass_on") 764), (Value.str (Str.ofString "pass_on") 765), (Value.str (Str.ofString "/claim/cut.py") 766), (Value.int 223 0), (Value.int 1 0), (Value.int 0 0), (Value.int 0 0), (Value.int 3 0), (Value.ref 375), (Value.bool true), (Value.int 181 0), (Value.ref 376), Value.none, (Value.ref 377), (Value.ref 378), (Value.ref 379), (Value.int 768 0), (Value.int 223 0), (Value.str (Str.ofString "/claim/cut.py") 769)])) (List.toArray []))
noncomputable def o265 (P : Params) : Obj := (Obj.mk (Value.type "function") none (Data.func (FuncData.mk (Str.ofString "pass_on") (Str.ofString "pass_on") (fnA (pI pB 41)) (.stmts (fnB (pI pB 41))) (fnS (pI pB 41)) 3 [] Value.none Value.none Value.none (Value.str (Str.ofString "gluepage.ligkern") 691) none (Value.ref 380) Value.none 0)) (List.toArray []))
noncomputable def o266 (P : Params) : Obj := (Obj.mk (Value.type "tuple") none (Data.seq (List.toArray [(Value.str (Str.ofString "word") 774), (Value.str (Str.ofString "op") 775), (Value.str (Str.ofString "code") 776), (Value.str (Str.ofString "now") 777), (Value.str (Str.ofString "keeps_left") 778), (Value.str (Str.ofString "keeps_right") 779), (Value.str (Str.ofString "parts") 780), (Value.str (Str.ofString "taken") 781), (Value.str (Str.ofString "made") 782), (Value.str (Str.ofString "turn") 783)]) 0) (List.toArray []))
noncomputable def o267 (P : Params) : Obj := (Obj.mk Value.none none (Data.func (FuncData.mk (Str.ofString "put_between") (Str.ofString "put_between") (fnA (pI pB 42)) (.stmts (fnB (pI pB 42))) (fnS (pI pB 42)) 0 [] Value.none Value.none Value.none Value.none none Value.none Value.none 0)) (List.toArray []))
noncomputable def o268 (P : Params) : Obj := (Obj.mk (Value.type "code") none (Data.fields (List.toArray [(Value.str (Str.ofString "put_between") 771), (Value.str (Str.ofString "put_between") 772), (Value.str (Str.ofString "/claim/cut.py") 773), (Value.int 229 0), (Value.int 3 0), (Value.int 0 0), (Value.int 0 0), (Value.int 3 0), (Value.ref 382), (Value.bool true), (Value.int 181 0), (Value.ref 383), Value.none, (Value.ref 384), (Value.ref 385), (Value.ref 386), (Value.int 784 0), (Value.int 229 0), (Value.str (Str.ofString "/claim/cut.py") 785)])) (List.toArray []))
noncomputable def o269 (P : Params) : Obj := (Obj.mk (Value.type "function") none (Data.func (FuncData.mk (Str.ofString "put_between") (Str.ofString "put_between") (fnA (pI pB 42)) (.stmts (fnB (pI pB 42))) (fnS (pI pB 42)) 3 [] Value.none Value.none Value.none (Value.str (Str.ofString "gluepage.ligkern") 691) none (Value.ref 387) Value.none 0)) (List.toArray []))
noncomputable def o270 (P : Params) : Obj := (Obj.mk (Value.type "tuple") none (Data.seq (List.toArray [(Value.str (Str.ofString "font") 790), (Value.str (Str.ofString "codes") 791), (Value.str (Str.ofString "left_edge") 792), (Value.str (Str.ofString "edge") 793), (Value.str (Str.ofString "word") 794), (Value.str (Str.ofString "steps") 795), (Value.str (Str.ofString "left") 796), (Value.str (Str.ofString "right") 797), (Value.str (Str.ofString "told") 798)]) 0) (List.toArray []))
noncomputable def o271 (P : Params) : Obj := (Obj.mk Value.none none (Data.func (FuncData.mk (Str.ofString "word_nodes") (Str.ofString "word_nodes") (fnA (pI pB 43)) (.stmts (fnB (pI pB 43))) (fnS (pI pB 43)) 0 [] Value.none Value.none Value.none Value.none none Value.none Value.none 0)) (List.toArray []))
noncomputable def o272 (P : Params) : Obj := (Obj.mk (Value.type "code") none (Data.fields (List.toArray [(Value.str (Str.ofString "word_nodes") 787), (Value.str (Str.ofString "word_nodes") 788), (Value.str (Str.ofString "/claim/cut.py") 789), (Value.int 249 0), (Value.int 4 0), (Value.int 0 0), (Value.int 0 0), (Value.int 3 0), (Value.ref 389), (Value.bool true), (Value.int 181 0), (Value.ref 390), Value.none, (Value.ref 391), (Value.ref 392), (Value.ref 393), (Value.int 799 0), (Value.int 249 0), (Value.str (Str.ofString "/claim/cut.py") 800)])) (List.toArray []))
noncomputable def o273 (P : Params) : Obj := (Obj.mk (Value.type "function") none (Data.func (FuncData.mk (Str.ofString "word_nodes") (Str.ofString "word_nodes") (fnA (pI pB 43)) (.stmts (fnB (pI pB 43))) (fnS (pI pB 43)) 3 [] Value.none Value.none Value.none (Value.str (Str.ofString "gluepage.ligkern") 691) none (Value.ref 394) Value.none 0)) (List.toArray []))
noncomputable def o274 (P : Params) : Obj := (Obj.mk (Value.type "tuple") none (Data.seq (List.toArray [(Value.bool true), (Value.bool true)]) 0) (List.toArray []))
noncomputable def o275 (P : Params) : Obj := (Obj.mk (Value.type "tuple") none (Data.seq (List.toArray [(Value.str (Str.ofString "font") 805), (Value.str (Str.ofString "codes") 806), (Value.str (Str.ofString "left_edge") 807), (Value.str (Str.ofString "right_edge") 808), (Value.str (Str.ofString "code") 809), (Value.str (Str.ofString "found") 810), (Value.str (Str.ofString "piece") 811), (Value.str (Str.ofString "has_left") 812)]) 0) (List.toArray []))
noncomputable def o276 (P : Params) : Obj := (Obj.mk Value.none none (Data.func (FuncData.mk (Str.ofString "run") (Str.ofString "run") (fnA (pI pB 44)) (.stmts (fnB (pI pB 44))) (fnS (pI pB 44)) 0 [] Value.none Value.none Value.none Value.none none Value.none Value.none 0)) (List.toArray []))
noncomputable def o277 (P : Params) : Obj := (Obj.mk (Value.type "code") none (Data.fields (List.toArray [(Value.str (Str.ofString "run") 802), (Value.str (Str.ofString "run") 803), (Value.str (Str.ofString "/claim/cut.py") 804), (Value.int 269 0), (Value.int 4 0), (Value.int 0 0), (Value.int 0 0), (Value.int 3 0), (Value.ref 397), (Value.bool true), (Value.int 181 0), (Value.ref 398), Value.none, (Value.ref 399), (Value.ref 400), (Value.ref 401), (Value.int 813 0), (Value.int 269 0), (Value.str (Str.ofString "/claim/cut.py") 814)])) (List.toArray []))
noncomputable def o278 (P : Params) : Obj := (Obj.mk (Value.type "function") none (Data.func (FuncData.mk (Str.ofString "run") (Str.ofString "run") (fnA (pI pB 44)) (.stmts (fnB (pI pB 44))) (fnS (pI pB 44)) 3 [] (Value.ref 396) Value.none Value.none (Value.str (Str.ofString "gluepage.ligkern") 691) none (Value.ref 402) Value.none 0)) (List.toArray []))
noncomputable def o279 (P : Params) : Obj := (Obj.mk (Value.type "dict") none (Data.dict (List.toArray [(ke P (Str.ofString "__name__") 165 (Value.str (Str.ofString "law_sq0038_01") 816)), (ke P (Str.ofString "__doc__") 166 Value.none), (ke P (Str.ofString "__package__") 167 Value.none), (ke P (Str.ofString "__loader__") 168 (Value.builtin "__main__.__loader__#opaque")), (ke P (Str.ofString "__spec__") 169 Value.none), (ke P (Str.ofString "__annotations__") 170 (Value.ref 6)), (ke P (Str.ofString "__builtins__") 171 (Value.ref 4)), (ke P (Str.ofString "__file__") 173 (Value.str (Str.ofString "/claim/cut.py") 172)), (ke P (Str.ofString "__cached__") 174 Value.none), (ke P (Str.ofString "_wall") 193 (Value.ref 21)), (ke P (Str.ofString "PageError") 223 (Value.ref 39)), (ke P (Str.ofString "BadArgument") 239 (Value.ref 52)), (ke P (Str.ofString "Overflow") 255 (Value.ref 64)), (ke P (Str.ofString "BadFont") 271 (Value.ref 76)), (ke P (Str.ofString "TooMuch") 287 (Value.ref 88)), (ke P (Str.ofString "MAX_DIMEN") 295 (Value.int 1073741823 294)), (ke P (Str.ofString "is_whole") 304 (Value.ref 97)), (ke P (Str.ofString "check_whole") 311 (Value.ref 104)), (ke P (Str.ofString "check_dimen") 318 (Value.ref 111)), (ke P (Str.ofString "EDGE") 322 (Value.int 256 321)), (ke P (Str.ofString "MOST_FONTS") 324 (Value.int 255 323)), (ke P (Str.ofString "MOST_PARAMS") 326 (Value.int 64 325)), (ke P (Str.ofString "MOST_SIZE") 332 (Value.int 134217727 331)), (ke P (Str.ofString "PLAIN_SORT") 337 (Value.int 0 333)), (ke P (Str.ofString "PROGRAM_SORT") 338 (Value.int 1 334)), (ke P (Str.ofString "LARGER_SORT") 339 (Value.int 2 335)), (ke P (Str.ofString "PIECES_SORT") 340 (Value.int 3 336)), (ke P (Str.ofString "STOP_SKIP") 344 (Value.int 128 341)), (ke P (Str.ofString "KERN_OP") 345 (Value.int 128 342)), (ke P (Str.ofString "LEAD") 346 (Value.int 255 343)), (ke P (Str.ofString "NO_CHARACTER") 353 (Value.ref 120)), (ke P (Str.ofString "is_size") 360 (Value.ref 127)), (ke P (Str.ofString "check_sizes") 368 (Value.ref 134)), (ke P (Str.ofString "check_pieces") 378 (Value.ref 141)), (ke P (Str.ofString "check_chars") 390 (Value.ref 148)), (ke P (Str.ofString "check_larger") 400 (Value.ref 155)), (ke P (Str.ofString "check_program") 418 (Value.ref 162)), (ke P (Str.ofString "left_start") 429 (Value.ref 169)), (ke P (Str.ofString "Font") 561 (Value.ref 259)), (ke P (Str.ofString "CHAR") 572 (Value.int 0 564)), (ke P (Str.ofString "LIGATURE") 573 (Value.int 1 565)), (ke P (Str.ofString "HBOX") 574 (Value.int 2 566)), (ke P (Str.ofString "VBOX") 575 (Value.int 3 567)), (ke P (Str.ofString "RULE") 576 (Value.int 4 568)), (ke P (Str.ofString "KERN") 577 (Value.int 5 569)), (ke P (Str.ofString "GLUE") 578 (Value.int 6 570)), (ke P (Str.ofString "PENALTY") 579 (Value.int 7 571)), (ke P (Str.ofString "FONT_KERN") 584 (Value.int 0 580)), (ke P (Str.ofString "EXPLICIT") 585 (Value.int 1 581)), (ke P (Str.ofString "ACCENT_KERN") 586 (Value.int 2 582)), (ke P (Str.ofString "MU_KERN") 587 (Value.int 3 583)), (ke P (Str.ofString "check_code") 594 (Value.ref 278)), (ke P (Str.ofString "Char") 626 (Value.ref 295)), (ke P (Str.ofString "Ligature") 658 (Value.ref 315)), (ke P (Str.ofString "Kern") 690 (Value.ref 336)), (ke P (Str.ofString "KNOWN_OPS") 701 (Value.ref 341)), (ke P (Str.ofString "STEPS") 703 (Value.int 20 702)), (ke P (Str.ofString "look") 719 (Value.ref 348)), (ke P (Str.ofString "Word") 753 (Value.ref 363)), (ke P (Str.ofString "leave") 763 (Value.ref 374)), (ke P (Str.ofString "pass_on") 770 (Value.ref 381)), (ke P (Str.ofString "put_between") 786 (Value.ref 388)), (ke P (Str.ofString "word_nodes") 801 (Value.ref 395)), (ke P (Str.ofString "run") 815 (Value.ref 403)), (ke P (Str.ofString "_law_chosen") 820 (Value.ref 404)), (ke P (Str.ofString "_law_cell") 828 (Value.ref 411)), (ke P (Str.ofString "_law_bag") 835 (Value.ref 418)), (ke P (Str.ofString "_law_draw") 845 (Value.ref 425)), (ke P (Str.ofString "_law_words") 851 (Value.ref 430)), (ke P (Str.ofString "_law_kerns") 857 (Value.ref 435)), (ke P (Str.ofString "_law_font") 863 (Value.ref 440)), (ke P (Str.ofString "_law_due") 877 (Value.ref 447)), (ke P (Str.ofString "_law_told") 887 (Value.ref 454)), (ke P (Str.ofString "law") 893 (Value.ref 459))]) 74) (List.toArray []))
noncomputable def o280 (P : Params) : Obj := (Obj.mk Value.none none (Data.fields (List.toArray [(Value.int 1 0), (Value.int 0 0), (Value.ref 20), (Value.int 5 0), (Value.int 0 0), (Value.ref 27), (Value.int 9 0), (Value.int 0 0), (Value.ref 48), (Value.int 11 0), (Value.int 0 0), (Value.ref 60), (Value.int 13 0), (Value.int 0 0), (Value.ref 72), (Value.int 15 0), (Value.int 0 0), (Value.ref 84), (Value.int 19 0), (Value.int 0 0), (Value.ref 96), (Value.int 21 0), (Value.int 0 0), (Value.ref 103), (Value.int 25 0), (Value.int 0 0), (Value.ref 110), (Value.int 37 0), (Value.int 0 0), (Value.ref 126), (Value.int 39 0), (Value.int 0 0), (Value.ref 133), (Value.int 43 0), (Value.int 0 0), (Value.ref 140), (Value.int 49 0), (Value.int 0 0), (Value.ref 147), (Value.int 61 0), (Value.int 0 0), (Value.ref 154), (Value.int 69 0), (Value.int 0 0), (Value.ref 161), (Value.int 88 0), (Value.int 0 0), (Value.ref 168), (Value.int 93 0), (Value.int 0 0), (Value.ref 175), (Value.int 156 0), (Value.int 0 0), (Value.ref 277), (Value.int 160 0), (Value.int 0 0), (Value.ref 284), (Value.int 166 0), (Value.int 0 0), (Value.ref 305), (Value.int 175 0), (Value.int 0 0), (Value.ref 325), (Value.int 186 0), (Value.int 0 0), (Value.ref 347), (Value.int 203 0), (Value.int 0 0), (Value.ref 354), (Value.int 214 0), (Value.int 0 0), (Value.ref 373), (Value.int 223 0), (Value.int 0 0), (Value.ref 380), (Value.int 229 0), (Value.int 0 0), (Value.ref 387), (Value.int 249 0), (Value.int 0 0), (Value.ref 394), (Value.int 269 0), (Value.int 0 0), (Value.ref 402), (Value.int 287 0), (Value.int 0 0), (Value.ref 410), (Value.int 289 0), (Value.int 0 0), (Value.ref 417), (Value.int 291 0), (Value.int 0 0), (Value.ref 424), (Value.int 300 0), (Value.int 0 0), (Value.ref 429), (Value.int 308 0), (Value.int 0 0), (Value.ref 434), (Value.int 321 0), (Value.int 0 0), (Value.ref 439), (Value.int 337 0), (Value.int 0 0), (Value.ref 446), (Value.int 349 0), (Value.int 0 0), (Value.ref 453), (Value.int 359 0), (Value.int 0 0), (Value.ref 458)])) (List.toArray []))
noncomputable def o281 (P : Params) : Obj := (Obj.mk (Value.type "tuple") none (Data.seq (List.toArray [(Value.int 1000000000007368199 818), (Value.int 1000000000000002948 819)]) 0) (List.toArray []))
noncomputable def o282 (P : Params) : Obj := (Obj.mk (Value.type "tuple") none (Data.seq (List.toArray [(Value.str (Str.ofString "script") 824), (Value.str (Str.ofString "k") 825)]) 0) (List.toArray []))
noncomputable def o283 (P : Params) : Obj := (Obj.mk Value.none none (Data.func (FuncData.mk (Str.ofString "_law_cell") (Str.ofString "_law_cell") (fnA (pI pB 47)) (.stmts (fnB (pI pB 47))) (fnS (pI pB 47)) 0 [] Value.none Value.none Value.none Value.none none Value.none Value.none 0)) (List.toArray []))
noncomputable def o284 (P : Params) : Obj := (Obj.mk (Value.type "code") none (Data.fields (List.toArray [(Value.str (Str.ofString "_law_cell") 821), (Value.str (Str.ofString "_law_cell") 822), (Value.str (Str.ofString "/claim/cut.py") 823), (Value.int 287 0), (Value.int 2 0), (Value.int 0 0), (Value.int 0 0), (Value.int 3 0), (Value.ref 405), (Value.bool true), (Value.int 181 0), (Value.ref 406), Value.none, (Value.ref 407), (Value.ref 408), (Value.ref 409), (Value.int 826 0), (Value.int 287 0), (Value.str (Str.ofString "/claim/cut.py") 827)])) (List.toArray []))
noncomputable def o285 (P : Params) : Obj := (Obj.mk (Value.type "function") none (Data.func (FuncData.mk (Str.ofString "_law_cell") (Str.ofString "_law_cell") (fnA (pI pB 47)) (.stmts (fnB (pI pB 47))) (fnS (pI pB 47)) 3 [] Value.none Value.none Value.none (Value.str (Str.ofString "law_sq0038_01") 816) none (Value.ref 410) Value.none 0)) (List.toArray []))
noncomputable def o286 (P : Params) : Obj := (Obj.mk (Value.type "tuple") none (Data.seq (List.toArray [(Value.str (Str.ofString "cell") 832)]) 0) (List.toArray []))
noncomputable def o287 (P : Params) : Obj := (Obj.mk Value.none none (Data.func (FuncData.mk (Str.ofString "_law_bag") (Str.ofString "_law_bag") (fnA (pI pB 48)) (.stmts (fnB (pI pB 48))) (fnS (pI pB 48)) 0 [] Value.none Value.none Value.none Value.none none Value.none Value.none 0)) (List.toArray []))
noncomputable def o288 (P : Params) : Obj := (Obj.mk (Value.type "code") none (Data.fields (List.toArray [(Value.str (Str.ofString "_law_bag") 829), (Value.str (Str.ofString "_law_bag") 830), (Value.str (Str.ofString "/claim/cut.py") 831), (Value.int 289 0), (Value.int 1 0), (Value.int 0 0), (Value.int 0 0), (Value.int 3 0), (Value.ref 412), (Value.bool true), (Value.int 181 0), (Value.ref 413), Value.none, (Value.ref 414), (Value.ref 415), (Value.ref 416), (Value.int 833 0), (Value.int 289 0), (Value.str (Str.ofString "/claim/cut.py") 834)])) (List.toArray []))
noncomputable def o289 (P : Params) : Obj := (Obj.mk (Value.type "function") none (Data.func (FuncData.mk (Str.ofString "_law_bag") (Str.ofString "_law_bag") (fnA (pI pB 48)) (.stmts (fnB (pI pB 48))) (fnS (pI pB 48)) 3 [] Value.none Value.none Value.none (Value.str (Str.ofString "law_sq0038_01") 816) none (Value.ref 417) Value.none 0)) (List.toArray []))
noncomputable def o290 (P : Params) : Obj := (Obj.mk (Value.type "tuple") none (Data.seq (List.toArray [(Value.str (Str.ofString "bag") 839), (Value.str (Str.ofString "many") 840), (Value.str (Str.ofString "digit") 841), (Value.str (Str.ofString "mixed") 842)]) 0) (List.toArray []))
noncomputable def o291 (P : Params) : Obj := (Obj.mk Value.none none (Data.func (FuncData.mk (Str.ofString "_law_draw") (Str.ofString "_law_draw") (fnA (pI pB 49)) (.stmts (fnB (pI pB 49))) (fnS (pI pB 49)) 0 [] Value.none Value.none Value.none Value.none none Value.none Value.none 0)) (List.toArray []))
noncomputable def o292 (P : Params) : Obj := (Obj.mk (Value.type "code") none (Data.fields (List.toArray [(Value.str (Str.ofString "_law_draw") 836), (Value.str (Str.ofString "_law_draw") 837), (Value.str (Str.ofString "/claim/cut.py") 838), (Value.int 291 0), (Value.int 2 0), (Value.int 0 0), (Value.int 0 0), (Value.int 3 0), (Value.ref 419), (Value.bool true), (Value.int 181 0), (Value.ref 420), Value.none, (Value.ref 421), (Value.ref 422), (Value.ref 423), (Value.int 843 0), (Value.int 291 0), (Value.str (Str.ofString "/claim/cut.py") 844)])) (List.toArray []))
noncomputable def o293 (P : Params) : Obj := (Obj.mk (Value.type "function") none (Data.func (FuncData.mk (Str.ofString "_law_draw") (Str.ofString "_law_draw") (fnA (pI pB 49)) (.stmts (fnB (pI pB 49))) (fnS (pI pB 49)) 3 [] Value.none Value.none Value.none (Value.str (Str.ofString "law_sq0038_01") 816) none (Value.ref 424) Value.none 0)) (List.toArray []))
noncomputable def o294 (P : Params) : Obj := (Obj.mk Value.none none (Data.func (FuncData.mk (Str.ofString "_law_words") (Str.ofString "_law_words") (fnA (pI pB 50)) (.stmts (fnB (pI pB 50))) (fnS (pI pB 50)) 0 [] Value.none Value.none Value.none Value.none none Value.none Value.none 0)) (List.toArray []))
noncomputable def o295 (P : Params) : Obj := (Obj.mk (Value.type "code") none (Data.fields (List.toArray [(Value.str (Str.ofString "_law_words") 846), (Value.str (Str.ofString "_law_words") 847), (Value.str (Str.ofString "/claim/cut.py") 848), (Value.int 300 0), (Value.int 2 0), (Value.int 0 0), (Value.int 0 0), (Value.int 3 0), (Value.ref 426), (Value.bool true), (Value.int 181 0), (Value.ref 427), Value.none, Value.none, Value.none, (Value.ref 428), (Value.int 849 0), (Value.int 300 0), (Value.str (Str.ofString "/claim/cut.py") 850)])) (List.toArray []))
noncomputable def o296 (P : Params) : Obj := (Obj.mk (Value.type "function") none (Data.func (FuncData.mk (Str.ofString "_law_words") (Str.ofString "_law_words") (fnA (pI pB 50)) (.stmts (fnB (pI pB 50))) (fnS (pI pB 50)) 3 [] Value.none Value.none Value.none (Value.str (Str.ofString "law_sq0038_01") 816) none (Value.ref 429) Value.none 0)) (List.toArray []))
noncomputable def o297 (P : Params) : Obj := (Obj.mk Value.none none (Data.func (FuncData.mk (Str.ofString "_law_kerns") (Str.ofString "_law_kerns") (fnA (pI pB 51)) (.stmts (fnB (pI pB 51))) (fnS (pI pB 51)) 0 [] Value.none Value.none Value.none Value.none none Value.none Value.none 0)) (List.toArray []))
noncomputable def o298 (P : Params) : Obj := (Obj.mk (Value.type "code") none (Data.fields (List.toArray [(Value.str (Str.ofString "_law_kerns") 852), (Value.str (Str.ofString "_law_kerns") 853), (Value.str (Str.ofString "/claim/cut.py") 854), (Value.int 308 0), (Value.int 3 0), (Value.int 0 0), (Value.int 0 0), (Value.int 3 0), (Value.ref 431), (Value.bool true), (Value.int 181 0), (Value.ref 432), Value.none, Value.none, Value.none, (Value.ref 433), (Value.int 855 0), (Value.int 308 0), (Value.str (Str.ofString "/claim/cut.py") 856)])) (List.toArray []))
noncomputable def o299 (P : Params) : Obj := (Obj.mk (Value.type "function") none (Data.func (FuncData.mk (Str.ofString "_law_kerns") (Str.ofString "_law_kerns") (fnA (pI pB 51)) (.stmts (fnB (pI pB 51))) (fnS (pI pB 51)) 3 [] Value.none Value.none Value.none (Value.str (Str.ofString "law_sq0038_01") 816) none (Value.ref 434) Value.none 0)) (List.toArray []))
noncomputable def o300 (P : Params) : Obj := (Obj.mk Value.none none (Data.func (FuncData.mk (Str.ofString "_law_font") (Str.ofString "_law_font") (fnA (pI pB 52)) (.stmts (fnB (pI pB 52))) (fnS (pI pB 52)) 0 [] Value.none Value.none Value.none Value.none none Value.none Value.none 0)) (List.toArray []))
noncomputable def o301 (P : Params) : Obj := (Obj.mk (Value.type "code") none (Data.fields (List.toArray [(Value.str (Str.ofString "_law_font") 858), (Value.str (Str.ofString "_law_font") 859), (Value.str (Str.ofString "/claim/cut.py") 860), (Value.int 321 0), (Value.int 4 0), (Value.int 0 0), (Value.int 0 0), (Value.int 3 0), (Value.ref 436), (Value.bool true), (Value.int 181 0), (Value.ref 437), Value.none, Value.none, Value.none, (Value.ref 438), (Value.int 861 0), (Value.int 321 0), (Value.str (Str.ofString "/claim/cut.py") 862)])) (List.toArray []))
noncomputable def o302 (P : Params) : Obj := (Obj.mk (Value.type "function") none (Data.func (FuncData.mk (Str.ofString "_law_font") (Str.ofString "_law_font") (fnA (pI pB 52)) (.stmts (fnB (pI pB 52))) (fnS (pI pB 52)) 3 [] Value.none Value.none Value.none (Value.str (Str.ofString "law_sq0038_01") 816) none (Value.ref 439) Value.none 0)) (List.toArray []))
noncomputable def o303 (P : Params) : Obj := (Obj.mk (Value.type "tuple") none (Data.seq (List.toArray [(Value.str (Str.ofString "text") 867), (Value.str (Str.ofString "words") 868), (Value.str (Str.ofString "kerns") 869), (Value.str (Str.ofString "found") 870), (Value.str (Str.ofString "at") 871), (Value.str (Str.ofString "code") 872), (Value.str (Str.ofString "size") 873), (Value.str (Str.ofString "word") 874)]) 0) (List.toArray []))
noncomputable def o304 (P : Params) : Obj := (Obj.mk Value.none none (Data.func (FuncData.mk (Str.ofString "_law_due") (Str.ofString "_law_due") (fnA (pI pB 53)) (.stmts (fnB (pI pB 53))) (fnS (pI pB 53)) 0 [] Value.none Value.none Value.none Value.none none Value.none Value.none 0)) (List.toArray []))
noncomputable def o305 (P : Params) : Obj := (Obj.mk (Value.type "code") none (Data.fields (List.toArray [(Value.str (Str.ofString "_law_due") 864), (Value.str (Str.ofString "_law_due") 865), (Value.str (Str.ofString "/claim/cut.py") 866), (Value.int 337 0), (Value.int 3 0), (Value.int 0 0), (Value.int 0 0), (Value.int 3 0), (Value.ref 441), (Value.bool true), (Value.int 181 0), (Value.ref 442), Value.none, (Value.ref 443), (Value.ref 444), (Value.ref 445), (Value.int 875 0), (Value.int 337 0), (Value.str (Str.ofString "/claim/cut.py") 876)])) (List.toArray []))
noncomputable def o306 (P : Params) : Obj := (Obj.mk (Value.type "function") none (Data.func (FuncData.mk (Str.ofString "_law_due") (Str.ofString "_law_due") (fnA (pI pB 53)) (.stmts (fnB (pI pB 53))) (fnS (pI pB 53)) 3 [] Value.none Value.none Value.none (Value.str (Str.ofString "law_sq0038_01") 816) none (Value.ref 446) Value.none 0)) (List.toArray []))
noncomputable def o307 (P : Params) : Obj := (Obj.mk (Value.type "tuple") none (Data.seq (List.toArray [(Value.str (Str.ofString "font") 881), (Value.str (Str.ofString "text") 882), (Value.str (Str.ofString "found") 883), (Value.str (Str.ofString "node") 884)]) 0) (List.toArray []))
noncomputable def o308 (P : Params) : Obj := (Obj.mk Value.none none (Data.func (FuncData.mk (Str.ofString "_law_told") (Str.ofString "_law_told") (fnA (pI pB 54)) (.stmts (fnB (pI pB 54))) (fnS (pI pB 54)) 0 [] Value.none Value.none Value.none Value.none none Value.none Value.none 0)) (List.toArray []))
noncomputable def o309 (P : Params) : Obj := (Obj.mk (Value.type "code") none (Data.fields (List.toArray [(Value.str (Str.ofString "_law_told") 878), (Value.str (Str.ofString "_law_told") 879), (Value.str (Str.ofString "/claim/cut.py") 880), (Value.int 349 0), (Value.int 2 0), (Value.int 0 0), (Value.int 0 0), (Value.int 3 0), (Value.ref 448), (Value.bool true), (Value.int 181 0), (Value.ref 449), Value.none, (Value.ref 450), (Value.ref 451), (Value.ref 452), (Value.int 885 0), (Value.int 349 0), (Value.str (Str.ofString "/claim/cut.py") 886)])) (List.toArray []))
noncomputable def o310 (P : Params) : Obj := (Obj.mk (Value.type "function") none (Data.func (FuncData.mk (Str.ofString "_law_told") (Str.ofString "_law_told") (fnA (pI pB 54)) (.stmts (fnB (pI pB 54))) (fnS (pI pB 54)) 3 [] Value.none Value.none Value.none (Value.str (Str.ofString "law_sq0038_01") 816) none (Value.ref 453) Value.none 0)) (List.toArray []))
noncomputable def o311 (P : Params) : Obj := (Obj.mk Value.none none (Data.func (FuncData.mk (Str.ofString "law") (Str.ofString "law") (fnA (pI pB 55)) (.stmts (fnB (pI pB 55))) (fnS (pI pB 55)) 0 [] Value.none Value.none Value.none Value.none none Value.none Value.none 0)) (List.toArray []))
noncomputable def o312 (P : Params) : Obj := (Obj.mk (Value.type "code") none (Data.fields (List.toArray [(Value.str (Str.ofString "law") 888), (Value.str (Str.ofString "law") 889), (Value.str (Str.ofString "/claim/cut.py") 890), (Value.int 359 0), (Value.int 1 0), (Value.int 0 0), (Value.int 0 0), (Value.int 3 0), (Value.ref 455), (Value.bool true), (Value.int 181 0), (Value.ref 456), Value.none, Value.none, Value.none, (Value.ref 457), (Value.int 891 0), (Value.int 359 0), (Value.str (Str.ofString "/claim/cut.py") 892)])) (List.toArray []))
noncomputable def o313 (P : Params) : Obj := (Obj.mk (Value.type "function") none (Data.func (FuncData.mk (Str.ofString "law") (Str.ofString "law") (fnA (pI pB 55)) (.stmts (fnB (pI pB 55))) (fnS (pI pB 55)) 3 [] Value.none Value.none Value.none (Value.str (Str.ofString "law_sq0038_01") 816) none (Value.ref 458) Value.none 0)) (List.toArray []))
noncomputable def hEnv : Env := { scope := pw.main.scope, locals := mainNs, globals := mainNs, cells := [], code := (Value.ref 13), frame := some 14 }
noncomputable def hHa (P : Params) : Heap := ⟨Array.mk [boot_o_0 P, boot_o_1 P, boot_o_2 P, boot_o_3 P, boot_o_4 P, boot_o_5 P, boot_o_6 P, boot_o_7 P, boot_o_8 P, boot_o_9 P, boot_o_10 P, boot_o_7 P, boot_o_8 P, o0 P, o1 P], (Life.mk [] [] [] 0 [] [] false (List.toArray []) [] 0 false false false 0 [2000, 10, 10] false 0 true [] [] 0 false)⟩
noncomputable def hT0 (P : Params) : BT := (nd (boot_o_0 P) (nd (boot_o_1 P) (nd (boot_o_3 P) (nd (boot_o_7 P) .nil .nil) (nd (boot_o_7 P) .nil .nil)) (nd (boot_o_5 P) (nd (boot_o_9 P) .nil .nil) (nd (o0 P) .nil .nil))) (nd (boot_o_2 P) (nd (boot_o_4 P) (nd (boot_o_8 P) .nil .nil) (nd (boot_o_8 P) .nil .nil)) (nd (boot_o_6 P) (nd (boot_o_10 P) .nil .nil) (nd (o1 P) .nil .nil))))
noncomputable def hT1 (P : Params) : BT := (nd (boot_o_0 P) (nd (boot_o_1 P) (nd (o2 P) (nd (boot_o_7 P) (nd (boot_o_7 P) (nd (boot_o_8 P) .nil .nil) .nil) (nd (o9 P) (nd (o21 P) .nil .nil) .nil)) (nd (boot_o_7 P) (nd (o5 P) (nd (o17 P) .nil .nil) .nil) (nd (o12 P) .nil .nil))) (nd (boot_o_5 P) (nd (boot_o_9 P) (nd (o4 P) (nd (boot_o_7 P) .nil .nil) .nil) (nd (boot_o_7 P) (nd (o23 P) .nil .nil) .nil)) (nd (o0 P) (nd (o7 P) (nd (o19 P) .nil .nil) .nil) (nd (o14 P) .nil .nil)))) (nd (boot_o_2 P) (nd (boot_o_4 P) (nd (boot_o_8 P) (nd (boot_o_8 P) (nd (o15 P) .nil .nil) .nil) (nd (o10 P) (nd (o22 P) .nil .nil) .nil)) (nd (o3 P) (nd (o6 P) (nd (o18 P) .nil .nil) .nil) (nd (o13 P) .nil .nil))) (nd (boot_o_6 P) (nd (boot_o_10 P) (nd (boot_o_7 P) (nd (o16 P) .nil .nil) .nil) (nd (o11 P) (nd (o24 P) .nil .nil) .nil)) (nd (o1 P) (nd (o8 P) (nd (o20 P) .nil .nil) .nil) (nd (boot_o_7 P) .nil .nil)))))
noncomputable def hSt1 : List Stmt := pT (pD (behindTheImports pw) 0) 3
noncomputable def hT2 (P : Params) : BT := (nd (boot_o_0 P) (nd (boot_o_1 P) (nd (o25 P) (nd (boot_o_7 P) (nd (boot_o_7 P) (nd (boot_o_8 P) .nil .nil) (nd (boot_o_8 P) .nil .nil)) (nd (o9 P) (nd (o27 P) .nil .nil) .nil)) (nd (boot_o_7 P) (nd (o5 P) (nd (o17 P) .nil .nil) (nd (o32 P) .nil .nil)) (nd (o12 P) (nd (o28 P) .nil .nil) .nil))) (nd (boot_o_5 P) (nd (boot_o_9 P) (nd (o4 P) (nd (boot_o_7 P) .nil .nil) (nd (o31 P) .nil .nil)) (nd (boot_o_7 P) (nd (o23 P) .nil .nil) .nil)) (nd (o0 P) (nd (o7 P) (nd (o19 P) .nil .nil) (nd (o34 P) .nil .nil)) (nd (o14 P) (nd (o29 P) .nil .nil) .nil)))) (nd (boot_o_2 P) (nd (boot_o_4 P) (nd (boot_o_8 P) (nd (boot_o_8 P) (nd (o15 P) .nil .nil) (nd (o30 P) .nil .nil)) (nd (o10 P) (nd (o22 P) .nil .nil) .nil)) (nd (o26 P) (nd (o6 P) (nd (o18 P) .nil .nil) (nd (o33 P) .nil .nil)) (nd (o13 P) (nd (o9 P) .nil .nil) .nil))) (nd (boot_o_6 P) (nd (boot_o_10 P) (nd (boot_o_7 P) (nd (o16 P) .nil .nil) (nd (boot_o_7 P) .nil .nil)) (nd (o11 P) (nd (o24 P) .nil .nil) .nil)) (nd (o1 P) (nd (o8 P) (nd (o20 P) .nil .nil) (nd (o35 P) .nil .nil)) (nd (boot_o_7 P) (nd (boot_o_7 P) .nil .nil) .nil)))))
noncomputable def hSt2 : List Stmt := pT (pD (behindTheImports pw) 3) 1
noncomputable def hT3 (P : Params) : BT := (nd (boot_o_0 P) (nd (boot_o_1 P) (nd (o36 P) (nd (boot_o_7 P) (nd (boot_o_7 P) (nd (boot_o_8 P) (nd (o42 P) .nil .nil) .nil) (nd (boot_o_8 P) .nil .nil)) (nd (o9 P) (nd (o38 P) .nil .nil) (nd (o28 P) .nil .nil))) (nd (boot_o_7 P) (nd (o5 P) (nd (o17 P) .nil .nil) (nd (o32 P) .nil .nil)) (nd (o12 P) (nd (o28 P) .nil .nil) (nd (boot_o_8 P) .nil .nil)))) (nd (boot_o_5 P) (nd (boot_o_9 P) (nd (o4 P) (nd (boot_o_7 P) (nd (o44 P) .nil .nil) .nil) (nd (o31 P) .nil .nil)) (nd (boot_o_7 P) (nd (o23 P) .nil .nil) (nd (o39 P) .nil .nil))) (nd (o0 P) (nd (o7 P) (nd (o19 P) .nil .nil) (nd (o34 P) .nil .nil)) (nd (o14 P) (nd (o29 P) .nil .nil) (nd (o41 P) .nil .nil))))) (nd (boot_o_2 P) (nd (boot_o_4 P) (nd (boot_o_8 P) (nd (boot_o_8 P) (nd (o15 P) (nd (o43 P) .nil .nil) .nil) (nd (o30 P) .nil .nil)) (nd (o10 P) (nd (o22 P) .nil .nil) (nd (o9 P) .nil .nil))) (nd (o37 P) (nd (o6 P) (nd (o18 P) .nil .nil) (nd (o33 P) .nil .nil)) (nd (o13 P) (nd (o9 P) .nil .nil) (nd (o40 P) .nil .nil)))) (nd (boot_o_6 P) (nd (boot_o_10 P) (nd (boot_o_7 P) (nd (o16 P) (nd (o45 P) .nil .nil) .nil) (nd (boot_o_7 P) .nil .nil)) (nd (o11 P) (nd (o24 P) .nil .nil) (nd (boot_o_7 P) .nil .nil))) (nd (o1 P) (nd (o8 P) (nd (o20 P) .nil .nil) (nd (o35 P) .nil .nil)) (nd (boot_o_7 P) (nd (boot_o_7 P) .nil .nil) (nd (boot_o_7 P) .nil .nil))))))
noncomputable def hSt3 : List Stmt := pT (pD (behindTheImports pw) 4) 1
noncomputable def hT4 (P : Params) : BT := (nd (boot_o_0 P) (nd (boot_o_1 P) (nd (o46 P) (nd (boot_o_7 P) (nd (boot_o_7 P) (nd (boot_o_8 P) (nd (o42 P) .nil .nil) .nil) (nd (boot_o_8 P) .nil .nil)) (nd (o9 P) (nd (o48 P) (nd (boot_o_8 P) .nil .nil) .nil) (nd (o28 P) .nil .nil))) (nd (boot_o_7 P) (nd (o5 P) (nd (o17 P) (nd (o28 P) .nil .nil) .nil) (nd (o32 P) .nil .nil)) (nd (o12 P) (nd (o28 P) (nd (o52 P) .nil .nil) .nil) (nd (boot_o_8 P) .nil .nil)))) (nd (boot_o_5 P) (nd (boot_o_9 P) (nd (o4 P) (nd (boot_o_7 P) (nd (o44 P) .nil .nil) .nil) (nd (o31 P) .nil .nil)) (nd (boot_o_7 P) (nd (o23 P) (nd (o51 P) .nil .nil) .nil) (nd (o39 P) .nil .nil))) (nd (o0 P) (nd (o7 P) (nd (o19 P) (nd (o49 P) .nil .nil) .nil) (nd (o34 P) .nil .nil)) (nd (o14 P) (nd (o29 P) (nd (o54 P) .nil .nil) .nil) (nd (o41 P) .nil .nil))))) (nd (boot_o_2 P) (nd (boot_o_4 P) (nd (boot_o_8 P) (nd (boot_o_8 P) (nd (o15 P) (nd (o43 P) .nil .nil) .nil) (nd (o30 P) .nil .nil)) (nd (o10 P) (nd (o22 P) (nd (o50 P) .nil .nil) .nil) (nd (o9 P) .nil .nil))) (nd (o47 P) (nd (o6 P) (nd (o18 P) (nd (o9 P) .nil .nil) .nil) (nd (o33 P) .nil .nil)) (nd (o13 P) (nd (o9 P) (nd (o53 P) .nil .nil) .nil) (nd (o40 P) .nil .nil)))) (nd (boot_o_6 P) (nd (boot_o_10 P) (nd (boot_o_7 P) (nd (o16 P) (nd (o45 P) .nil .nil) .nil) (nd (boot_o_7 P) .nil .nil)) (nd (o11 P) (nd (o24 P) (nd (boot_o_7 P) .nil .nil) .nil) (nd (boot_o_7 P) .nil .nil))) (nd (o1 P) (nd (o8 P) (nd (o20 P) (nd (boot_o_7 P) .nil .nil) .nil) (nd (o35 P) .nil .nil)) (nd (boot_o_7 P) (nd (boot_o_7 P) (nd (o55 P) .nil .nil) .nil) (nd (boot_o_7 P) .nil .nil))))))
noncomputable def hSt4 : List Stmt := pT (pD (behindTheImports pw) 5) 1
noncomputable def hT5 (P : Params) : BT := (nd (boot_o_0 P) (nd (boot_o_1 P) (nd (o56 P) (nd (boot_o_7 P) (nd (boot_o_7 P) (nd (boot_o_8 P) (nd (o42 P) .nil .nil) (nd (o67 P) .nil .nil)) (nd (boot_o_8 P) (nd (o28 P) .nil .nil) (nd (o77 P) .nil .nil))) (nd (o9 P) (nd (o58 P) (nd (boot_o_8 P) .nil .nil) (nd (o72 P) .nil .nil)) (nd (o28 P) (nd (o62 P) .nil .nil) .nil))) (nd (boot_o_7 P) (nd (o5 P) (nd (o17 P) (nd (o28 P) .nil .nil) (nd (boot_o_8 P) .nil .nil)) (nd (o32 P) (nd (boot_o_8 P) .nil .nil) .nil)) (nd (o12 P) (nd (o28 P) (nd (o52 P) .nil .nil) (nd (o74 P) .nil .nil)) (nd (boot_o_8 P) (nd (boot_o_7 P) .nil .nil) .nil)))) (nd (boot_o_5 P) (nd (boot_o_9 P) (nd (o4 P) (nd (boot_o_7 P) (nd (o44 P) .nil .nil) (nd (o69 P) .nil .nil)) (nd (o31 P) (nd (o59 P) .nil .nil) .nil)) (nd (boot_o_7 P) (nd (o23 P) (nd (o51 P) .nil .nil) (nd (boot_o_7 P) .nil .nil)) (nd (o39 P) (nd (o64 P) .nil .nil) .nil))) (nd (o0 P) (nd (o7 P) (nd (o19 P) (nd (o49 P) .nil .nil) (nd (boot_o_7 P) .nil .nil)) (nd (o34 P) (nd (o61 P) .nil .nil) .nil)) (nd (o14 P) (nd (o29 P) (nd (o54 P) .nil .nil) (nd (o75 P) .nil .nil)) (nd (o41 P) (nd (o66 P) .nil .nil) .nil))))) (nd (boot_o_2 P) (nd (boot_o_4 P) (nd (boot_o_8 P) (nd (boot_o_8 P) (nd (o15 P) (nd (o43 P) .nil .nil) (nd (o68 P) .nil .nil)) (nd (o30 P) (nd (o9 P) .nil .nil) .nil)) (nd (o10 P) (nd (o22 P) (nd (o50 P) .nil .nil) (nd (o73 P) .nil .nil)) (nd (o9 P) (nd (o63 P) .nil .nil) .nil))) (nd (o57 P) (nd (o6 P) (nd (o18 P) (nd (o9 P) .nil .nil) (nd (o70 P) .nil .nil)) (nd (o33 P) (nd (o60 P) .nil .nil) .nil)) (nd (o13 P) (nd (o9 P) (nd (o53 P) .nil .nil) (nd (boot_o_7 P) .nil .nil)) (nd (o40 P) (nd (boot_o_8 P) .nil .nil) .nil)))) (nd (boot_o_6 P) (nd (boot_o_10 P) (nd (boot_o_7 P) (nd (o16 P) (nd (o45 P) .nil .nil) (nd (boot_o_7 P) .nil .nil)) (nd (boot_o_7 P) (nd (boot_o_7 P) .nil .nil) .nil)) (nd (o11 P) (nd (o24 P) (nd (boot_o_7 P) .nil .nil) (nd (boot_o_8 P) .nil .nil)) (nd (boot_o_7 P) (nd (o65 P) .nil .nil) .nil))) (nd (o1 P) (nd (o8 P) (nd (o20 P) (nd (boot_o_7 P) .nil .nil) (nd (o71 P) .nil .nil)) (nd (o35 P) (nd (boot_o_7 P) .nil .nil) .nil)) (nd (boot_o_7 P) (nd (boot_o_7 P) (nd (o55 P) .nil .nil) (nd (o76 P) .nil .nil)) (nd (boot_o_7 P) (nd (boot_o_7 P) .nil .nil) .nil))))))
noncomputable def hSt5 : List Stmt := pT (pD (behindTheImports pw) 6) 11
noncomputable def hT6 (P : Params) : BT := (nd (boot_o_0 P) (nd (boot_o_1 P) (nd (o78 P) (nd (boot_o_7 P) (nd (boot_o_7 P) (nd (boot_o_8 P) (nd (o42 P) (nd (o90 P) .nil .nil) .nil) (nd (o67 P) (nd (boot_o_7 P) .nil .nil) .nil)) (nd (boot_o_8 P) (nd (o28 P) (nd (boot_o_8 P) .nil .nil) .nil) (nd (o77 P) .nil .nil))) (nd (o9 P) (nd (o58 P) (nd (boot_o_8 P) (nd (boot_o_7 P) .nil .nil) .nil) (nd (o72 P) .nil .nil)) (nd (o28 P) (nd (o62 P) (nd (o103 P) .nil .nil) .nil) (nd (o85 P) .nil .nil)))) (nd (boot_o_7 P) (nd (o5 P) (nd (o17 P) (nd (o28 P) (nd (boot_o_7 P) .nil .nil) .nil) (nd (boot_o_8 P) .nil .nil)) (nd (o32 P) (nd (boot_o_8 P) (nd (o101 P) .nil .nil) .nil) (nd (o82 P) .nil .nil))) (nd (o12 P) (nd (o28 P) (nd (o52 P) (nd (o96 P) .nil .nil) .nil) (nd (o74 P) .nil .nil)) (nd (boot_o_8 P) (nd (boot_o_7 P) (nd (o106 P) .nil .nil) .nil) (nd (o87 P) .nil .nil))))) (nd (boot_o_5 P) (nd (boot_o_9 P) (nd (o4 P) (nd (boot_o_7 P) (nd (o44 P) (nd (boot_o_8 P) .nil .nil) .nil) (nd (o69 P) (nd (o109 P) .nil .nil) .nil)) (nd (o31 P) (nd (o59 P) (nd (boot_o_7 P) .nil .nil) .nil) (nd (o81 P) .nil .nil))) (nd (boot_o_7 P) (nd (o23 P) (nd (o51 P) (nd (o95 P) .nil .nil) .nil) (nd (boot_o_7 P) .nil .nil)) (nd (o39 P) (nd (o64 P) (nd (o104 P) .nil .nil) .nil) (nd (boot_o_7 P) .nil .nil)))) (nd (o0 P) (nd (o7 P) (nd (o19 P) (nd (o49 P) (nd (o93 P) .nil .nil) .nil) (nd (boot_o_7 P) .nil .nil)) (nd (o34 P) (nd (o61 P) (nd (boot_o_7 P) .nil .nil) .nil) (nd (o84 P) .nil .nil))) (nd (o14 P) (nd (o29 P) (nd (o54 P) (nd (o98 P) .nil .nil) .nil) (nd (o75 P) .nil .nil)) (nd (o41 P) (nd (o66 P) (nd (boot_o_8 P) .nil .nil) .nil) (nd (o88 P) .nil .nil)))))) (nd (boot_o_2 P) (nd (boot_o_4 P) (nd (boot_o_8 P) (nd (boot_o_8 P) (nd (o15 P) (nd (o43 P) (nd (boot_o_7 P) .nil .nil) .nil) (nd (o68 P) (nd (o108 P) .nil .nil) .nil)) (nd (o30 P) (nd (o9 P) (nd (o99 P) .nil .nil) .nil) (nd (o80 P) .nil .nil))) (nd (o10 P) (nd (o22 P) (nd (o50 P) (nd (boot_o_8 P) .nil .nil) .nil) (nd (o73 P) .nil .nil)) (nd (o9 P) (nd (o63 P) (nd (boot_o_7 P) .nil .nil) .nil) (nd (o86 P) .nil .nil)))) (nd (o79 P) (nd (o6 P) (nd (o18 P) (nd (o9 P) (nd (o92 P) .nil .nil) .nil) (nd (o70 P) .nil .nil)) (nd (o33 P) (nd (o60 P) (nd (o102 P) .nil .nil) .nil) (nd (o83 P) .nil .nil))) (nd (o13 P) (nd (o9 P) (nd (o53 P) (nd (o97 P) .nil .nil) .nil) (nd (boot_o_7 P) .nil .nil)) (nd (o40 P) (nd (boot_o_8 P) (nd (boot_o_7 P) .nil .nil) .nil) (nd (boot_o_7 P) .nil .nil))))) (nd (boot_o_6 P) (nd (boot_o_10 P) (nd (boot_o_7 P) (nd (o16 P) (nd (o45 P) (nd (o91 P) .nil .nil) .nil) (nd (boot_o_7 P) (nd (o110 P) .nil .nil) .nil)) (nd (boot_o_7 P) (nd (boot_o_7 P) (nd (o100 P) .nil .nil) .nil) (nd (boot_o_7 P) .nil .nil))) (nd (o11 P) (nd (o24 P) (nd (boot_o_7 P) (nd (boot_o_7 P) .nil .nil) .nil) (nd (boot_o_8 P) .nil .nil)) (nd (boot_o_7 P) (nd (o65 P) (nd (o105 P) .nil .nil) .nil) (nd (boot_o_8 P) .nil .nil)))) (nd (o1 P) (nd (o8 P) (nd (o20 P) (nd (boot_o_7 P) (nd (o94 P) .nil .nil) .nil) (nd (o71 P) .nil .nil)) (nd (o35 P) (nd (boot_o_7 P) (nd (boot_o_8 P) .nil .nil) .nil) (nd (boot_o_7 P) .nil .nil))) (nd (boot_o_7 P) (nd (boot_o_7 P) (nd (o55 P) (nd (boot_o_7 P) .nil .nil) .nil) (nd (o76 P) .nil .nil)) (nd (boot_o_7 P) (nd (boot_o_7 P) (nd (o107 P) .nil .nil) .nil) (nd (o89 P) .nil .nil)))))))
noncomputable def hSt6 : List Stmt := pT (pD (behindTheImports pw) 17) 9
noncomputable def hT7 (P : Params) : BT := (nd (boot_o_0 P) (nd (boot_o_1 P) (nd (o111 P) (nd (boot_o_7 P) (nd (boot_o_7 P) (nd (boot_o_8 P) (nd (o42 P) (nd (o90 P) .nil .nil) .nil) (nd (o67 P) (nd (boot_o_7 P) .nil .nil) .nil)) (nd (boot_o_8 P) (nd (o28 P) (nd (boot_o_8 P) .nil .nil) .nil) (nd (o77 P) .nil .nil))) (nd (o9 P) (nd (o58 P) (nd (boot_o_8 P) (nd (boot_o_7 P) .nil .nil) .nil) (nd (o72 P) (nd (o114 P) .nil .nil) .nil)) (nd (o28 P) (nd (o62 P) (nd (o103 P) .nil .nil) .nil) (nd (o85 P) .nil .nil)))) (nd (boot_o_7 P) (nd (o5 P) (nd (o17 P) (nd (o28 P) (nd (boot_o_7 P) .nil .nil) .nil) (nd (boot_o_8 P) (nd (boot_o_7 P) .nil .nil) .nil)) (nd (o32 P) (nd (boot_o_8 P) (nd (o101 P) .nil .nil) .nil) (nd (o82 P) .nil .nil))) (nd (o12 P) (nd (o28 P) (nd (o52 P) (nd (o96 P) .nil .nil) .nil) (nd (o74 P) .nil .nil)) (nd (boot_o_8 P) (nd (boot_o_7 P) (nd (o106 P) .nil .nil) .nil) (nd (o87 P) .nil .nil))))) (nd (boot_o_5 P) (nd (boot_o_9 P) (nd (o4 P) (nd (boot_o_7 P) (nd (o44 P) (nd (boot_o_8 P) .nil .nil) .nil) (nd (o69 P) (nd (o109 P) .nil .nil) .nil)) (nd (o31 P) (nd (o59 P) (nd (boot_o_7 P) .nil .nil) .nil) (nd (o81 P) .nil .nil))) (nd (boot_o_7 P) (nd (o23 P) (nd (o51 P) (nd (o95 P) .nil .nil) .nil) (nd (boot_o_7 P) (nd (o116 P) .nil .nil) .nil)) (nd (o39 P) (nd (o64 P) (nd (o104 P) .nil .nil) .nil) (nd (boot_o_7 P) .nil .nil)))) (nd (o0 P) (nd (o7 P) (nd (o19 P) (nd (o49 P) (nd (o93 P) .nil .nil) .nil) (nd (boot_o_7 P) (nd (o113 P) .nil .nil) .nil)) (nd (o34 P) (nd (o61 P) (nd (boot_o_7 P) .nil .nil) .nil) (nd (o84 P) .nil .nil))) (nd (o14 P) (nd (o29 P) (nd (o54 P) (nd (o98 P) .nil .nil) .nil) (nd (o75 P) .nil .nil)) (nd (o41 P) (nd (o66 P) (nd (boot_o_8 P) .nil .nil) .nil) (nd (o88 P) .nil .nil)))))) (nd (boot_o_2 P) (nd (boot_o_4 P) (nd (boot_o_8 P) (nd (boot_o_8 P) (nd (o15 P) (nd (o43 P) (nd (boot_o_7 P) .nil .nil) .nil) (nd (o68 P) (nd (o108 P) .nil .nil) .nil)) (nd (o30 P) (nd (o9 P) (nd (o99 P) .nil .nil) .nil) (nd (o80 P) .nil .nil))) (nd (o10 P) (nd (o22 P) (nd (o50 P) (nd (boot_o_8 P) .nil .nil) .nil) (nd (o73 P) (nd (o115 P) .nil .nil) .nil)) (nd (o9 P) (nd (o63 P) (nd (boot_o_7 P) .nil .nil) .nil) (nd (o86 P) .nil .nil)))) (nd (o112 P) (nd (o6 P) (nd (o18 P) (nd (o9 P) (nd (o92 P) .nil .nil) .nil) (nd (o70 P) (nd (boot_o_8 P) .nil .nil) .nil)) (nd (o33 P) (nd (o60 P) (nd (o102 P) .nil .nil) .nil) (nd (o83 P) .nil .nil))) (nd (o13 P) (nd (o9 P) (nd (o53 P) (nd (o97 P) .nil .nil) .nil) (nd (boot_o_7 P) .nil .nil)) (nd (o40 P) (nd (boot_o_8 P) (nd (boot_o_7 P) .nil .nil) .nil) (nd (boot_o_7 P) .nil .nil))))) (nd (boot_o_6 P) (nd (boot_o_10 P) (nd (boot_o_7 P) (nd (o16 P) (nd (o45 P) (nd (o91 P) .nil .nil) .nil) (nd (boot_o_7 P) (nd (o110 P) .nil .nil) .nil)) (nd (boot_o_7 P) (nd (boot_o_7 P) (nd (o100 P) .nil .nil) .nil) (nd (boot_o_7 P) .nil .nil))) (nd (o11 P) (nd (o24 P) (nd (boot_o_7 P) (nd (boot_o_7 P) .nil .nil) .nil) (nd (boot_o_8 P) .nil .nil)) (nd (boot_o_7 P) (nd (o65 P) (nd (o105 P) .nil .nil) .nil) (nd (boot_o_8 P) .nil .nil)))) (nd (o1 P) (nd (o8 P) (nd (o20 P) (nd (boot_o_7 P) (nd (o94 P) .nil .nil) .nil) (nd (o71 P) (nd (boot_o_7 P) .nil .nil) .nil)) (nd (o35 P) (nd (boot_o_7 P) (nd (boot_o_8 P) .nil .nil) .nil) (nd (boot_o_7 P) .nil .nil))) (nd (boot_o_7 P) (nd (boot_o_7 P) (nd (o55 P) (nd (boot_o_7 P) .nil .nil) .nil) (nd (o76 P) .nil .nil)) (nd (boot_o_7 P) (nd (boot_o_7 P) (nd (o107 P) .nil .nil) .nil) (nd (o89 P) .nil .nil)))))))
noncomputable def hSt7 : List Stmt := pT (pD (behindTheImports pw) 26) 1
noncomputable def hT8 (P : Params) : BT := (nd (boot_o_0 P) (nd (boot_o_1 P) (nd (o117 P) (nd (boot_o_7 P) (nd (boot_o_7 P) (nd (boot_o_8 P) (nd (o42 P) (nd (o90 P) (nd (o166 P) .nil .nil) .nil) (nd (o129 P) .nil .nil)) (nd (o67 P) (nd (boot_o_7 P) .nil .nil) (nd (boot_o_8 P) .nil .nil))) (nd (boot_o_8 P) (nd (o28 P) (nd (boot_o_8 P) .nil .nil) (nd (o139 P) .nil .nil)) (nd (o77 P) (nd (o121 P) .nil .nil) (nd (boot_o_7 P) .nil .nil)))) (nd (o9 P) (nd (o58 P) (nd (boot_o_8 P) (nd (boot_o_7 P) (nd (o174 P) .nil .nil) .nil) (nd (o134 P) .nil .nil)) (nd (o72 P) (nd (o114 P) .nil .nil) (nd (o152 P) .nil .nil))) (nd (o28 P) (nd (o62 P) (nd (o103 P) .nil .nil) (nd (boot_o_7 P) .nil .nil)) (nd (o85 P) (nd (boot_o_7 P) .nil .nil) (nd (o161 P) .nil .nil))))) (nd (boot_o_7 P) (nd (o5 P) (nd (o17 P) (nd (o28 P) (nd (boot_o_7 P) (nd (o170 P) .nil .nil) .nil) (nd (boot_o_8 P) .nil .nil)) (nd (boot_o_8 P) (nd (boot_o_7 P) .nil .nil) (nd (o150 P) .nil .nil))) (nd (o32 P) (nd (boot_o_8 P) (nd (o101 P) .nil .nil) (nd (boot_o_7 P) .nil .nil)) (nd (o82 P) (nd (o123 P) .nil .nil) (nd (boot_o_7 P) .nil .nil)))) (nd (o12 P) (nd (o28 P) (nd (o52 P) (nd (o96 P) .nil .nil) (nd (o136 P) .nil .nil)) (nd (o74 P) (nd (o9 P) .nil .nil) (nd (o155 P) .nil .nil))) (nd (boot_o_8 P) (nd (boot_o_7 P) (nd (o106 P) .nil .nil) (nd (o145 P) .nil .nil)) (nd (o87 P) (nd (boot_o_7 P) .nil .nil) (nd (boot_o_8 P) .nil .nil)))))) (nd (boot_o_5 P) (nd (boot_o_9 P) (nd (o4 P) (nd (boot_o_7 P) (nd (o44 P) (nd (boot_o_8 P) (nd (o168 P) .nil .nil) .nil) (nd (o131 P) .nil .nil)) (nd (o69 P) (nd (o109 P) .nil .nil) (nd (boot_o_7 P) .nil .nil))) (nd (o31 P) (nd (o59 P) (nd (boot_o_7 P) .nil .nil) (nd (boot_o_8 P) .nil .nil)) (nd (o81 P) (nd (boot_o_7 P) .nil .nil) (nd (o158 P) .nil .nil)))) (nd (boot_o_7 P) (nd (o23 P) (nd (o51 P) (nd (o95 P) .nil .nil) (nd (boot_o_7 P) .nil .nil)) (nd (boot_o_7 P) (nd (o116 P) .nil .nil) (nd (o153 P) .nil .nil))) (nd (o39 P) (nd (o64 P) (nd (o104 P) .nil .nil) (nd (o144 P) .nil .nil)) (nd (boot_o_7 P) (nd (o126 P) .nil .nil) (nd (o163 P) .nil .nil))))) (nd (o0 P) (nd (o7 P) (nd (o19 P) (nd (o49 P) (nd (o93 P) (nd (o172 P) .nil .nil) .nil) (nd (boot_o_7 P) .nil .nil)) (nd (boot_o_7 P) (nd (o113 P) .nil .nil) (nd (boot_o_7 P) .nil .nil))) (nd (o34 P) (nd (o61 P) (nd (boot_o_7 P) .nil .nil) (nd (o142 P) .nil .nil)) (nd (o84 P) (nd (boot_o_8 P) .nil .nil) (nd (o160 P) .nil .nil)))) (nd (o14 P) (nd (o29 P) (nd (o54 P) (nd (o98 P) .nil .nil) (nd (o137 P) .nil .nil)) (nd (o75 P) (nd (boot_o_7 P) .nil .nil) (nd (boot_o_8 P) .nil .nil))) (nd (o41 P) (nd (o66 P) (nd (boot_o_8 P) .nil .nil) (nd (o147 P) .nil .nil)) (nd (o88 P) (nd (o128 P) .nil .nil) (nd (boot_o_7 P) .nil .nil))))))) (nd (boot_o_2 P) (nd (boot_o_4 P) (nd (boot_o_8 P) (nd (boot_o_8 P) (nd (o15 P) (nd (o43 P) (nd (boot_o_7 P) (nd (o167 P) .nil .nil) .nil) (nd (o130 P) .nil .nil)) (nd (o68 P) (nd (o108 P) .nil .nil) (nd (o148 P) .nil .nil))) (nd (o30 P) (nd (o9 P) (nd (o99 P) .nil .nil) (nd (boot_o_7 P) .nil .nil)) (nd (o80 P) (nd (o122 P) .nil .nil) (nd (o157 P) .nil .nil)))) (nd (o10 P) (nd (o22 P) (nd (o50 P) (nd (boot_o_8 P) .nil .nil) (nd (o135 P) .nil .nil)) (nd (o73 P) (nd (o115 P) .nil .nil) (nd (boot_o_7 P) .nil .nil))) (nd (o9 P) (nd (o63 P) (nd (boot_o_7 P) .nil .nil) (nd (boot_o_8 P) .nil .nil)) (nd (o86 P) (nd (o125 P) .nil .nil) (nd (o162 P) .nil .nil))))) (nd (o118 P) (nd (o6 P) (nd (o18 P) (nd (o9 P) (nd (o92 P) (nd (o171 P) .nil .nil) .nil) (nd (o132 P) .nil .nil)) (nd (o70 P) (nd (boot_o_8 P) .nil .nil) (nd (o151 P) .nil .nil))) (nd (o33 P) (nd (o60 P) (nd (o102 P) .nil .nil) (nd (o141 P) .nil .nil)) (nd (o83 P) (nd (boot_o_7 P) .nil .nil) (nd (boot_o_8 P) .nil .nil)))) (nd (o13 P) (nd (o9 P) (nd (o53 P) (nd (o97 P) .nil .nil) (nd (boot_o_7 P) .nil .nil)) (nd (boot_o_7 P) (nd (o119 P) .nil .nil) (nd (boot_o_7 P) .nil .nil))) (nd (o40 P) (nd (boot_o_8 P) (nd (boot_o_7 P) .nil .nil) (nd (o146 P) .nil .nil)) (nd (boot_o_7 P) (nd (boot_o_8 P) .nil .nil) (nd (o164 P) .nil .nil)))))) (nd (boot_o_6 P) (nd (boot_o_10 P) (nd (boot_o_7 P) (nd (o16 P) (nd (o45 P) (nd (o91 P) (nd (o169 P) .nil .nil) .nil) (nd (boot_o_7 P) .nil .nil)) (nd (boot_o_7 P) (nd (o110 P) .nil .nil) (nd (o149 P) .nil .nil))) (nd (boot_o_7 P) (nd (boot_o_7 P) (nd (o100 P) .nil .nil) (nd (o140 P) .nil .nil)) (nd (boot_o_7 P) (nd (boot_o_7 P) .nil .nil) (nd (o159 P) .nil .nil)))) (nd (o11 P) (nd (o24 P) (nd (boot_o_7 P) (nd (boot_o_7 P) .nil .nil) (nd (boot_o_8 P) .nil .nil)) (nd (boot_o_8 P) (nd (boot_o_7 P) .nil .nil) (nd (o154 P) .nil .nil))) (nd (boot_o_7 P) (nd (o65 P) (nd (o105 P) .nil .nil) (nd (boot_o_7 P) .nil .nil)) (nd (boot_o_8 P) (nd (o127 P) .nil .nil) (nd (boot_o_7 P) .nil .nil))))) (nd (o1 P) (nd (o8 P) (nd (o20 P) (nd (boot_o_7 P) (nd (o94 P) (nd (o173 P) .nil .nil) .nil) (nd (o133 P) .nil .nil)) (nd (o71 P) (nd (boot_o_7 P) .nil .nil) (nd (boot_o_8 P) .nil .nil))) (nd (o35 P) (nd (boot_o_7 P) (nd (boot_o_8 P) .nil .nil) (nd (o143 P) .nil .nil)) (nd (boot_o_7 P) (nd (o124 P) .nil .nil) (nd (boot_o_7 P) .nil .nil)))) (nd (boot_o_7 P) (nd (boot_o_7 P) (nd (o55 P) (nd (boot_o_7 P) .nil .nil) (nd (o138 P) .nil .nil)) (nd (o76 P) (nd (o120 P) .nil .nil) (nd (o156 P) .nil .nil))) (nd (boot_o_7 P) (nd (boot_o_7 P) (nd (o107 P) .nil .nil) (nd (boot_o_7 P) .nil .nil)) (nd (o89 P) (nd (boot_o_7 P) .nil .nil) (nd (o165 P) .nil .nil))))))))
noncomputable def hSt8 : List Stmt := pT (pD (behindTheImports pw) 27) 1
noncomputable def hT9 (P : Params) : BT := (nd (boot_o_0 P) (nd (boot_o_1 P) (nd (o175 P) (nd (boot_o_7 P) (nd (boot_o_7 P) (nd (boot_o_8 P) (nd (o42 P) (nd (o90 P) (nd (o166 P) .nil .nil) .nil) (nd (o129 P) .nil .nil)) (nd (o67 P) (nd (boot_o_7 P) .nil .nil) (nd (boot_o_8 P) .nil .nil))) (nd (boot_o_8 P) (nd (o28 P) (nd (boot_o_8 P) (nd (o181 P) .nil .nil) .nil) (nd (o139 P) .nil .nil)) (nd (o77 P) (nd (o121 P) .nil .nil) (nd (boot_o_7 P) .nil .nil)))) (nd (o9 P) (nd (o58 P) (nd (boot_o_8 P) (nd (boot_o_7 P) (nd (o174 P) .nil .nil) .nil) (nd (o134 P) .nil .nil)) (nd (o72 P) (nd (o114 P) .nil .nil) (nd (o152 P) .nil .nil))) (nd (o28 P) (nd (o62 P) (nd (o103 P) .nil .nil) (nd (boot_o_7 P) .nil .nil)) (nd (o85 P) (nd (boot_o_7 P) .nil .nil) (nd (o161 P) .nil .nil))))) (nd (boot_o_7 P) (nd (o5 P) (nd (o17 P) (nd (o28 P) (nd (boot_o_7 P) (nd (o170 P) .nil .nil) .nil) (nd (boot_o_8 P) .nil .nil)) (nd (boot_o_8 P) (nd (boot_o_7 P) .nil .nil) (nd (o150 P) .nil .nil))) (nd (o32 P) (nd (boot_o_8 P) (nd (o101 P) (nd (boot_o_7 P) .nil .nil) .nil) (nd (boot_o_7 P) .nil .nil)) (nd (o82 P) (nd (o123 P) .nil .nil) (nd (boot_o_7 P) .nil .nil)))) (nd (o12 P) (nd (o28 P) (nd (o52 P) (nd (o96 P) (nd (o179 P) .nil .nil) .nil) (nd (o136 P) .nil .nil)) (nd (o74 P) (nd (o9 P) .nil .nil) (nd (o155 P) .nil .nil))) (nd (boot_o_8 P) (nd (boot_o_7 P) (nd (o106 P) .nil .nil) (nd (o145 P) .nil .nil)) (nd (o87 P) (nd (boot_o_7 P) .nil .nil) (nd (boot_o_8 P) .nil .nil)))))) (nd (boot_o_5 P) (nd (boot_o_9 P) (nd (o4 P) (nd (boot_o_7 P) (nd (o44 P) (nd (boot_o_8 P) (nd (o168 P) .nil .nil) .nil) (nd (o131 P) .nil .nil)) (nd (o69 P) (nd (o109 P) .nil .nil) (nd (boot_o_7 P) .nil .nil))) (nd (o31 P) (nd (o59 P) (nd (boot_o_7 P) (nd (boot_o_8 P) .nil .nil) .nil) (nd (boot_o_8 P) .nil .nil)) (nd (o81 P) (nd (boot_o_7 P) .nil .nil) (nd (o158 P) .nil .nil)))) (nd (boot_o_7 P) (nd (o23 P) (nd (o51 P) (nd (o95 P) (nd (o178 P) .nil .nil) .nil) (nd (boot_o_7 P) .nil .nil)) (nd (boot_o_7 P) (nd (o116 P) .nil .nil) (nd (o153 P) .nil .nil))) (nd (o39 P) (nd (o64 P) (nd (o104 P) .nil .nil) (nd (o144 P) .nil .nil)) (nd (boot_o_7 P) (nd (o126 P) .nil .nil) (nd (o163 P) .nil .nil))))) (nd (o0 P) (nd (o7 P) (nd (o19 P) (nd (o49 P) (nd (o93 P) (nd (o172 P) .nil .nil) .nil) (nd (boot_o_7 P) .nil .nil)) (nd (boot_o_7 P) (nd (o113 P) .nil .nil) (nd (boot_o_7 P) .nil .nil))) (nd (o34 P) (nd (o61 P) (nd (boot_o_7 P) (nd (o184 P) .nil .nil) .nil) (nd (o142 P) .nil .nil)) (nd (o84 P) (nd (boot_o_8 P) .nil .nil) (nd (o160 P) .nil .nil)))) (nd (o14 P) (nd (o29 P) (nd (o54 P) (nd (o98 P) (nd (o81 P) .nil .nil) .nil) (nd (o137 P) .nil .nil)) (nd (o75 P) (nd (boot_o_7 P) .nil .nil) (nd (boot_o_8 P) .nil .nil))) (nd (o41 P) (nd (o66 P) (nd (boot_o_8 P) .nil .nil) (nd (o147 P) .nil .nil)) (nd (o88 P) (nd (o128 P) .nil .nil) (nd (boot_o_7 P) .nil .nil))))))) (nd (boot_o_2 P) (nd (boot_o_4 P) (nd (boot_o_8 P) (nd (boot_o_8 P) (nd (o15 P) (nd (o43 P) (nd (boot_o_7 P) (nd (o167 P) .nil .nil) .nil) (nd (o130 P) .nil .nil)) (nd (o68 P) (nd (o108 P) .nil .nil) (nd (o148 P) .nil .nil))) (nd (o30 P) (nd (o9 P) (nd (o99 P) (nd (boot_o_7 P) .nil .nil) .nil) (nd (boot_o_7 P) .nil .nil)) (nd (o80 P) (nd (o122 P) .nil .nil) (nd (o157 P) .nil .nil)))) (nd (o10 P) (nd (o22 P) (nd (o50 P) (nd (boot_o_8 P) (nd (o177 P) .nil .nil) .nil) (nd (o135 P) .nil .nil)) (nd (o73 P) (nd (o115 P) .nil .nil) (nd (boot_o_7 P) .nil .nil))) (nd (o9 P) (nd (o63 P) (nd (boot_o_7 P) .nil .nil) (nd (boot_o_8 P) .nil .nil)) (nd (o86 P) (nd (o125 P) .nil .nil) (nd (o162 P) .nil .nil))))) (nd (o176 P) (nd (o6 P) (nd (o18 P) (nd (o9 P) (nd (o92 P) (nd (o171 P) .nil .nil) .nil) (nd (o132 P) .nil .nil)) (nd (o70 P) (nd (boot_o_8 P) .nil .nil) (nd (o151 P) .nil .nil))) (nd (o33 P) (nd (o60 P) (nd (o102 P) (nd (o183 P) .nil .nil) .nil) (nd (o141 P) .nil .nil)) (nd (o83 P) (nd (boot_o_7 P) .nil .nil) (nd (boot_o_8 P) .nil .nil)))) (nd (o13 P) (nd (o9 P) (nd (o53 P) (nd (o97 P) (nd (o180 P) .nil .nil) .nil) (nd (boot_o_7 P) .nil .nil)) (nd (boot_o_7 P) (nd (o119 P) .nil .nil) (nd (boot_o_7 P) .nil .nil))) (nd (o40 P) (nd (boot_o_8 P) (nd (boot_o_7 P) .nil .nil) (nd (o146 P) .nil .nil)) (nd (boot_o_7 P) (nd (boot_o_8 P) .nil .nil) (nd (o164 P) .nil .nil)))))) (nd (boot_o_6 P) (nd (boot_o_10 P) (nd (boot_o_7 P) (nd (o16 P) (nd (o45 P) (nd (o91 P) (nd (o169 P) .nil .nil) .nil) (nd (boot_o_7 P) .nil .nil)) (nd (boot_o_7 P) (nd (o110 P) .nil .nil) (nd (o149 P) .nil .nil))) (nd (boot_o_7 P) (nd (boot_o_7 P) (nd (o100 P) (nd (o182 P) .nil .nil) .nil) (nd (o140 P) .nil .nil)) (nd (boot_o_7 P) (nd (boot_o_7 P) .nil .nil) (nd (o159 P) .nil .nil)))) (nd (o11 P) (nd (o24 P) (nd (boot_o_7 P) (nd (boot_o_7 P) (nd (boot_o_7 P) .nil .nil) .nil) (nd (boot_o_8 P) .nil .nil)) (nd (boot_o_8 P) (nd (boot_o_7 P) .nil .nil) (nd (o154 P) .nil .nil))) (nd (boot_o_7 P) (nd (o65 P) (nd (o105 P) .nil .nil) (nd (boot_o_7 P) .nil .nil)) (nd (boot_o_8 P) (nd (o127 P) .nil .nil) (nd (boot_o_7 P) .nil .nil))))) (nd (o1 P) (nd (o8 P) (nd (o20 P) (nd (boot_o_7 P) (nd (o94 P) (nd (o173 P) .nil .nil) .nil) (nd (o133 P) .nil .nil)) (nd (o71 P) (nd (boot_o_7 P) .nil .nil) (nd (boot_o_8 P) .nil .nil))) (nd (o35 P) (nd (boot_o_7 P) (nd (boot_o_8 P) (nd (o185 P) .nil .nil) .nil) (nd (o143 P) .nil .nil)) (nd (boot_o_7 P) (nd (o124 P) .nil .nil) (nd (boot_o_7 P) .nil .nil)))) (nd (boot_o_7 P) (nd (boot_o_7 P) (nd (o55 P) (nd (boot_o_7 P) (nd (boot_o_7 P) .nil .nil) .nil) (nd (o138 P) .nil .nil)) (nd (o76 P) (nd (o120 P) .nil .nil) (nd (o156 P) .nil .nil))) (nd (boot_o_7 P) (nd (boot_o_7 P) (nd (o107 P) .nil .nil) (nd (boot_o_7 P) .nil .nil)) (nd (o89 P) (nd (boot_o_7 P) .nil .nil) (nd (o165 P) .nil .nil))))))))
noncomputable def hSt9 : List Stmt := pT (pD (behindTheImports pw) 28) 4
noncomputable def hT10 (P : Params) : BT := (nd (boot_o_0 P) (nd (boot_o_1 P) (nd (o186 P) (nd (boot_o_7 P) (nd (boot_o_7 P) (nd (boot_o_8 P) (nd (o42 P) (nd (o90 P) (nd (o166 P) .nil .nil) .nil) (nd (o129 P) .nil .nil)) (nd (o67 P) (nd (boot_o_7 P) (nd (boot_o_8 P) .nil .nil) .nil) (nd (boot_o_8 P) .nil .nil))) (nd (boot_o_8 P) (nd (o28 P) (nd (boot_o_8 P) (nd (o181 P) .nil .nil) .nil) (nd (o139 P) .nil .nil)) (nd (o77 P) (nd (o121 P) .nil .nil) (nd (boot_o_7 P) .nil .nil)))) (nd (o9 P) (nd (o58 P) (nd (boot_o_8 P) (nd (boot_o_7 P) (nd (o174 P) .nil .nil) .nil) (nd (o134 P) .nil .nil)) (nd (o72 P) (nd (o114 P) (nd (o198 P) .nil .nil) .nil) (nd (o152 P) .nil .nil))) (nd (o28 P) (nd (o62 P) (nd (o103 P) (nd (boot_o_7 P) .nil .nil) .nil) (nd (boot_o_7 P) .nil .nil)) (nd (o85 P) (nd (boot_o_7 P) .nil .nil) (nd (o161 P) .nil .nil))))) (nd (boot_o_7 P) (nd (o5 P) (nd (o17 P) (nd (o28 P) (nd (boot_o_7 P) (nd (o170 P) .nil .nil) .nil) (nd (boot_o_8 P) .nil .nil)) (nd (boot_o_8 P) (nd (boot_o_7 P) (nd (o194 P) .nil .nil) .nil) (nd (o150 P) .nil .nil))) (nd (o32 P) (nd (boot_o_8 P) (nd (o101 P) (nd (boot_o_7 P) .nil .nil) .nil) (nd (boot_o_7 P) .nil .nil)) (nd (o82 P) (nd (o123 P) .nil .nil) (nd (boot_o_7 P) .nil .nil)))) (nd (o12 P) (nd (o28 P) (nd (o52 P) (nd (o96 P) (nd (o179 P) .nil .nil) .nil) (nd (o136 P) .nil .nil)) (nd (o74 P) (nd (o9 P) (nd (o202 P) .nil .nil) .nil) (nd (o155 P) .nil .nil))) (nd (boot_o_8 P) (nd (boot_o_7 P) (nd (o106 P) (nd (o189 P) .nil .nil) .nil) (nd (o145 P) .nil .nil)) (nd (o87 P) (nd (boot_o_7 P) .nil .nil) (nd (boot_o_8 P) .nil .nil)))))) (nd (boot_o_5 P) (nd (boot_o_9 P) (nd (o4 P) (nd (boot_o_7 P) (nd (o44 P) (nd (boot_o_8 P) (nd (o168 P) .nil .nil) .nil) (nd (o131 P) .nil .nil)) (nd (o69 P) (nd (o109 P) (nd (boot_o_7 P) .nil .nil) .nil) (nd (boot_o_7 P) .nil .nil))) (nd (o31 P) (nd (o59 P) (nd (boot_o_7 P) (nd (boot_o_8 P) .nil .nil) .nil) (nd (boot_o_8 P) .nil .nil)) (nd (o81 P) (nd (boot_o_7 P) .nil .nil) (nd (o158 P) .nil .nil)))) (nd (boot_o_7 P) (nd (o23 P) (nd (o51 P) (nd (o95 P) (nd (o178 P) .nil .nil) .nil) (nd (boot_o_7 P) .nil .nil)) (nd (boot_o_7 P) (nd (o116 P) (nd (o200 P) .nil .nil) .nil) (nd (o153 P) .nil .nil))) (nd (o39 P) (nd (o64 P) (nd (o104 P) (nd (o188 P) .nil .nil) .nil) (nd (o144 P) .nil .nil)) (nd (boot_o_7 P) (nd (o126 P) .nil .nil) (nd (o163 P) .nil .nil))))) (nd (o0 P) (nd (o7 P) (nd (o19 P) (nd (o49 P) (nd (o93 P) (nd (o172 P) .nil .nil) .nil) (nd (boot_o_7 P) .nil .nil)) (nd (boot_o_7 P) (nd (o113 P) (nd (o196 P) .nil .nil) .nil) (nd (boot_o_7 P) .nil .nil))) (nd (o34 P) (nd (o61 P) (nd (boot_o_7 P) (nd (o184 P) .nil .nil) .nil) (nd (o142 P) .nil .nil)) (nd (o84 P) (nd (boot_o_8 P) .nil .nil) (nd (o160 P) .nil .nil)))) (nd (o14 P) (nd (o29 P) (nd (o54 P) (nd (o98 P) (nd (o81 P) .nil .nil) .nil) (nd (o137 P) .nil .nil)) (nd (o75 P) (nd (boot_o_7 P) .nil .nil) (nd (boot_o_8 P) .nil .nil))) (nd (o41 P) (nd (o66 P) (nd (boot_o_8 P) (nd (o191 P) .nil .nil) .nil) (nd (o147 P) .nil .nil)) (nd (o88 P) (nd (o128 P) .nil .nil) (nd (boot_o_7 P) .nil .nil))))))) (nd (boot_o_2 P) (nd (boot_o_4 P) (nd (boot_o_8 P) (nd (boot_o_8 P) (nd (o15 P) (nd (o43 P) (nd (boot_o_7 P) (nd (o167 P) .nil .nil) .nil) (nd (o130 P) .nil .nil)) (nd (o68 P) (nd (o108 P) (nd (o192 P) .nil .nil) .nil) (nd (o148 P) .nil .nil))) (nd (o30 P) (nd (o9 P) (nd (o99 P) (nd (boot_o_7 P) .nil .nil) .nil) (nd (boot_o_7 P) .nil .nil)) (nd (o80 P) (nd (o122 P) .nil .nil) (nd (o157 P) .nil .nil)))) (nd (o10 P) (nd (o22 P) (nd (o50 P) (nd (boot_o_8 P) (nd (o177 P) .nil .nil) .nil) (nd (o135 P) .nil .nil)) (nd (o73 P) (nd (o115 P) (nd (o199 P) .nil .nil) .nil) (nd (boot_o_7 P) .nil .nil))) (nd (o9 P) (nd (o63 P) (nd (boot_o_7 P) (nd (o9 P) .nil .nil) .nil) (nd (boot_o_8 P) .nil .nil)) (nd (o86 P) (nd (o125 P) .nil .nil) (nd (o162 P) .nil .nil))))) (nd (o187 P) (nd (o6 P) (nd (o18 P) (nd (o9 P) (nd (o92 P) (nd (o171 P) .nil .nil) .nil) (nd (o132 P) .nil .nil)) (nd (o70 P) (nd (boot_o_8 P) (nd (o195 P) .nil .nil) .nil) (nd (o151 P) .nil .nil))) (nd (o33 P) (nd (o60 P) (nd (o102 P) (nd (o183 P) .nil .nil) .nil) (nd (o141 P) .nil .nil)) (nd (o83 P) (nd (boot_o_7 P) .nil .nil) (nd (boot_o_8 P) .nil .nil)))) (nd (o13 P) (nd (o9 P) (nd (o53 P) (nd (o97 P) (nd (o180 P) .nil .nil) .nil) (nd (boot_o_7 P) .nil .nil)) (nd (boot_o_7 P) (nd (o119 P) .nil .nil) (nd (boot_o_7 P) .nil .nil))) (nd (o40 P) (nd (boot_o_8 P) (nd (boot_o_7 P) (nd (o190 P) .nil .nil) .nil) (nd (o146 P) .nil .nil)) (nd (boot_o_7 P) (nd (boot_o_8 P) .nil .nil) (nd (o164 P) .nil .nil)))))) (nd (boot_o_6 P) (nd (boot_o_10 P) (nd (boot_o_7 P) (nd (o16 P) (nd (o45 P) (nd (o91 P) (nd (o169 P) .nil .nil) .nil) (nd (boot_o_7 P) .nil .nil)) (nd (boot_o_7 P) (nd (o110 P) (nd (o193 P) .nil .nil) .nil) (nd (o149 P) .nil .nil))) (nd (boot_o_7 P) (nd (boot_o_7 P) (nd (o100 P) (nd (o182 P) .nil .nil) .nil) (nd (o140 P) .nil .nil)) (nd (boot_o_7 P) (nd (boot_o_7 P) .nil .nil) (nd (o159 P) .nil .nil)))) (nd (o11 P) (nd (o24 P) (nd (boot_o_7 P) (nd (boot_o_7 P) (nd (boot_o_7 P) .nil .nil) .nil) (nd (boot_o_8 P) .nil .nil)) (nd (boot_o_8 P) (nd (boot_o_7 P) (nd (o201 P) .nil .nil) .nil) (nd (o154 P) .nil .nil))) (nd (boot_o_7 P) (nd (o65 P) (nd (o105 P) (nd (boot_o_7 P) .nil .nil) .nil) (nd (boot_o_7 P) .nil .nil)) (nd (boot_o_8 P) (nd (o127 P) .nil .nil) (nd (boot_o_7 P) .nil .nil))))) (nd (o1 P) (nd (o8 P) (nd (o20 P) (nd (boot_o_7 P) (nd (o94 P) (nd (o173 P) .nil .nil) .nil) (nd (o133 P) .nil .nil)) (nd (o71 P) (nd (boot_o_7 P) (nd (o197 P) .nil .nil) .nil) (nd (boot_o_8 P) .nil .nil))) (nd (o35 P) (nd (boot_o_7 P) (nd (boot_o_8 P) (nd (o185 P) .nil .nil) .nil) (nd (o143 P) .nil .nil)) (nd (boot_o_7 P) (nd (o124 P) .nil .nil) (nd (boot_o_7 P) .nil .nil)))) (nd (boot_o_7 P) (nd (boot_o_7 P) (nd (o55 P) (nd (boot_o_7 P) (nd (boot_o_7 P) .nil .nil) .nil) (nd (o138 P) .nil .nil)) (nd (o76 P) (nd (o120 P) .nil .nil) (nd (o156 P) .nil .nil))) (nd (boot_o_7 P) (nd (boot_o_7 P) (nd (o107 P) (nd (boot_o_7 P) .nil .nil) .nil) (nd (boot_o_7 P) .nil .nil)) (nd (o89 P) (nd (boot_o_7 P) .nil .nil) (nd (o165 P) .nil .nil))))))))
noncomputable def hSt10 : List Stmt := pT (pD (behindTheImports pw) 32) 1
noncomputable def hT11 (P : Params) : BT := (nd (boot_o_0 P) (nd (boot_o_1 P) (nd (o203 P) (nd (boot_o_7 P) (nd (boot_o_7 P) (nd (boot_o_8 P) (nd (o42 P) (nd (o90 P) (nd (o166 P) .nil .nil) .nil) (nd (o129 P) (nd (o219 P) .nil .nil) .nil)) (nd (o67 P) (nd (boot_o_7 P) (nd (boot_o_8 P) .nil .nil) .nil) (nd (boot_o_8 P) .nil .nil))) (nd (boot_o_8 P) (nd (o28 P) (nd (boot_o_8 P) (nd (o181 P) .nil .nil) .nil) (nd (o139 P) .nil .nil)) (nd (o77 P) (nd (o121 P) (nd (boot_o_7 P) .nil .nil) .nil) (nd (boot_o_7 P) .nil .nil)))) (nd (o9 P) (nd (o58 P) (nd (boot_o_8 P) (nd (boot_o_7 P) (nd (o174 P) .nil .nil) .nil) (nd (o134 P) .nil .nil)) (nd (o72 P) (nd (o114 P) (nd (o198 P) .nil .nil) .nil) (nd (o152 P) .nil .nil))) (nd (o28 P) (nd (o62 P) (nd (o103 P) (nd (boot_o_7 P) .nil .nil) .nil) (nd (boot_o_7 P) .nil .nil)) (nd (o85 P) (nd (boot_o_7 P) (nd (o211 P) .nil .nil) .nil) (nd (o161 P) .nil .nil))))) (nd (boot_o_7 P) (nd (o5 P) (nd (o17 P) (nd (o28 P) (nd (boot_o_7 P) (nd (o170 P) .nil .nil) .nil) (nd (boot_o_8 P) .nil .nil)) (nd (boot_o_8 P) (nd (boot_o_7 P) (nd (o194 P) .nil .nil) .nil) (nd (o150 P) .nil .nil))) (nd (o32 P) (nd (boot_o_8 P) (nd (o101 P) (nd (boot_o_7 P) .nil .nil) .nil) (nd (boot_o_7 P) .nil .nil)) (nd (o82 P) (nd (o123 P) (nd (o209 P) .nil .nil) .nil) (nd (boot_o_7 P) .nil .nil)))) (nd (o12 P) (nd (o28 P) (nd (o52 P) (nd (o96 P) (nd (o179 P) .nil .nil) .nil) (nd (o136 P) .nil .nil)) (nd (o74 P) (nd (o9 P) (nd (o202 P) .nil .nil) .nil) (nd (o155 P) .nil .nil))) (nd (boot_o_8 P) (nd (boot_o_7 P) (nd (o106 P) (nd (o189 P) .nil .nil) .nil) (nd (o145 P) .nil .nil)) (nd (o87 P) (nd (boot_o_7 P) (nd (o215 P) .nil .nil) .nil) (nd (boot_o_8 P) .nil .nil)))))) (nd (boot_o_5 P) (nd (boot_o_9 P) (nd (o4 P) (nd (boot_o_7 P) (nd (o44 P) (nd (boot_o_8 P) (nd (o168 P) .nil .nil) .nil) (nd (o131 P) .nil .nil)) (nd (o69 P) (nd (o109 P) (nd (boot_o_7 P) .nil .nil) .nil) (nd (boot_o_7 P) .nil .nil))) (nd (o31 P) (nd (o59 P) (nd (boot_o_7 P) (nd (boot_o_8 P) .nil .nil) .nil) (nd (boot_o_8 P) .nil .nil)) (nd (o81 P) (nd (boot_o_7 P) (nd (o207 P) .nil .nil) .nil) (nd (o158 P) .nil .nil)))) (nd (boot_o_7 P) (nd (o23 P) (nd (o51 P) (nd (o95 P) (nd (o178 P) .nil .nil) .nil) (nd (boot_o_7 P) .nil .nil)) (nd (boot_o_7 P) (nd (o116 P) (nd (o200 P) .nil .nil) .nil) (nd (o153 P) .nil .nil))) (nd (o39 P) (nd (o64 P) (nd (o104 P) (nd (o188 P) .nil .nil) .nil) (nd (o144 P) .nil .nil)) (nd (boot_o_7 P) (nd (o126 P) (nd (o213 P) .nil .nil) .nil) (nd (o163 P) .nil .nil))))) (nd (o0 P) (nd (o7 P) (nd (o19 P) (nd (o49 P) (nd (o93 P) (nd (o172 P) .nil .nil) .nil) (nd (boot_o_7 P) .nil .nil)) (nd (boot_o_7 P) (nd (o113 P) (nd (o196 P) .nil .nil) .nil) (nd (boot_o_7 P) .nil .nil))) (nd (o34 P) (nd (o61 P) (nd (boot_o_7 P) (nd (o184 P) .nil .nil) .nil) (nd (o142 P) .nil .nil)) (nd (o84 P) (nd (boot_o_8 P) (nd (boot_o_8 P) .nil .nil) .nil) (nd (o160 P) .nil .nil)))) (nd (o14 P) (nd (o29 P) (nd (o54 P) (nd (o98 P) (nd (o81 P) .nil .nil) .nil) (nd (o137 P) .nil .nil)) (nd (o75 P) (nd (boot_o_7 P) (nd (o9 P) .nil .nil) .nil) (nd (boot_o_8 P) .nil .nil))) (nd (o41 P) (nd (o66 P) (nd (boot_o_8 P) (nd (o191 P) .nil .nil) .nil) (nd (o147 P) .nil .nil)) (nd (o88 P) (nd (o128 P) (nd (o217 P) .nil .nil) .nil) (nd (boot_o_7 P) .nil .nil))))))) (nd (boot_o_2 P) (nd (boot_o_4 P) (nd (boot_o_8 P) (nd (boot_o_8 P) (nd (o15 P) (nd (o43 P) (nd (boot_o_7 P) (nd (o167 P) .nil .nil) .nil) (nd (o130 P) .nil .nil)) (nd (o68 P) (nd (o108 P) (nd (o192 P) .nil .nil) .nil) (nd (o148 P) .nil .nil))) (nd (o30 P) (nd (o9 P) (nd (o99 P) (nd (boot_o_7 P) .nil .nil) .nil) (nd (boot_o_7 P) .nil .nil)) (nd (o80 P) (nd (o122 P) (nd (o206 P) .nil .nil) .nil) (nd (o157 P) .nil .nil)))) (nd (o10 P) (nd (o22 P) (nd (o50 P) (nd (boot_o_8 P) (nd (o177 P) .nil .nil) .nil) (nd (o135 P) .nil .nil)) (nd (o73 P) (nd (o115 P) (nd (o199 P) .nil .nil) .nil) (nd (boot_o_7 P) .nil .nil))) (nd (o9 P) (nd (o63 P) (nd (boot_o_7 P) (nd (o9 P) .nil .nil) .nil) (nd (boot_o_8 P) .nil .nil)) (nd (o86 P) (nd (o125 P) (nd (o212 P) .nil .nil) .nil) (nd (o162 P) .nil .nil))))) (nd (o204 P) (nd (o6 P) (nd (o18 P) (nd (o9 P) (nd (o92 P) (nd (o171 P) .nil .nil) .nil) (nd (o132 P) .nil .nil)) (nd (o70 P) (nd (boot_o_8 P) (nd (o195 P) .nil .nil) .nil) (nd (o151 P) .nil .nil))) (nd (o33 P) (nd (o60 P) (nd (o102 P) (nd (o183 P) .nil .nil) .nil) (nd (o141 P) .nil .nil)) (nd (o83 P) (nd (boot_o_7 P) (nd (boot_o_7 P) .nil .nil) .nil) (nd (boot_o_8 P) .nil .nil)))) (nd (o13 P) (nd (o9 P) (nd (o53 P) (nd (o97 P) (nd (o180 P) .nil .nil) .nil) (nd (boot_o_7 P) .nil .nil)) (nd (boot_o_7 P) (nd (o119 P) (nd (boot_o_7 P) .nil .nil) .nil) (nd (boot_o_7 P) .nil .nil))) (nd (o40 P) (nd (boot_o_8 P) (nd (boot_o_7 P) (nd (o190 P) .nil .nil) .nil) (nd (o146 P) .nil .nil)) (nd (boot_o_7 P) (nd (boot_o_8 P) (nd (o216 P) .nil .nil) .nil) (nd (o164 P) .nil .nil)))))) (nd (boot_o_6 P) (nd (boot_o_10 P) (nd (boot_o_7 P) (nd (o16 P) (nd (o45 P) (nd (o91 P) (nd (o169 P) .nil .nil) .nil) (nd (boot_o_7 P) .nil .nil)) (nd (boot_o_7 P) (nd (o110 P) (nd (o193 P) .nil .nil) .nil) (nd (o149 P) .nil .nil))) (nd (boot_o_7 P) (nd (boot_o_7 P) (nd (o100 P) (nd (o182 P) .nil .nil) .nil) (nd (o140 P) .nil .nil)) (nd (boot_o_7 P) (nd (boot_o_7 P) (nd (o208 P) .nil .nil) .nil) (nd (o159 P) .nil .nil)))) (nd (o11 P) (nd (o24 P) (nd (boot_o_7 P) (nd (boot_o_7 P) (nd (boot_o_7 P) .nil .nil) .nil) (nd (boot_o_8 P) .nil .nil)) (nd (boot_o_8 P) (nd (boot_o_7 P) (nd (o201 P) .nil .nil) .nil) (nd (o154 P) .nil .nil))) (nd (boot_o_7 P) (nd (o65 P) (nd (o105 P) (nd (boot_o_7 P) .nil .nil) .nil) (nd (boot_o_7 P) .nil .nil)) (nd (boot_o_8 P) (nd (o127 P) (nd (o214 P) .nil .nil) .nil) (nd (boot_o_7 P) .nil .nil))))) (nd (o1 P) (nd (o8 P) (nd (o20 P) (nd (boot_o_7 P) (nd (o94 P) (nd (o173 P) .nil .nil) .nil) (nd (o133 P) .nil .nil)) (nd (o71 P) (nd (boot_o_7 P) (nd (o197 P) .nil .nil) .nil) (nd (boot_o_8 P) .nil .nil))) (nd (o35 P) (nd (boot_o_7 P) (nd (boot_o_8 P) (nd (o185 P) .nil .nil) .nil) (nd (o143 P) .nil .nil)) (nd (boot_o_7 P) (nd (o124 P) (nd (o210 P) .nil .nil) .nil) (nd (boot_o_7 P) .nil .nil)))) (nd (boot_o_7 P) (nd (boot_o_7 P) (nd (o55 P) (nd (boot_o_7 P) (nd (boot_o_7 P) .nil .nil) .nil) (nd (o138 P) .nil .nil)) (nd (o76 P) (nd (o120 P) (nd (o205 P) .nil .nil) .nil) (nd (o156 P) .nil .nil))) (nd (boot_o_7 P) (nd (boot_o_7 P) (nd (o107 P) (nd (boot_o_7 P) .nil .nil) .nil) (nd (boot_o_7 P) .nil .nil)) (nd (o89 P) (nd (boot_o_7 P) (nd (o218 P) .nil .nil) .nil) (nd (o165 P) .nil .nil))))))))
noncomputable def hSt11 : List Stmt := pT (pD (behindTheImports pw) 33) 1
noncomputable def hT12 (P : Params) : BT := (nd (boot_o_0 P) (nd (boot_o_1 P) (nd (o220 P) (nd (boot_o_7 P) (nd (boot_o_7 P) (nd (boot_o_8 P) (nd (o42 P) (nd (o90 P) (nd (o166 P) .nil .nil) .nil) (nd (o129 P) (nd (o219 P) .nil .nil) .nil)) (nd (o67 P) (nd (boot_o_7 P) (nd (boot_o_8 P) .nil .nil) .nil) (nd (boot_o_8 P) .nil .nil))) (nd (boot_o_8 P) (nd (o28 P) (nd (boot_o_8 P) (nd (o181 P) .nil .nil) .nil) (nd (o139 P) (nd (o231 P) .nil .nil) .nil)) (nd (o77 P) (nd (o121 P) (nd (boot_o_7 P) .nil .nil) .nil) (nd (boot_o_7 P) .nil .nil)))) (nd (o9 P) (nd (o58 P) (nd (boot_o_8 P) (nd (boot_o_7 P) (nd (o174 P) .nil .nil) .nil) (nd (o134 P) (nd (boot_o_7 P) .nil .nil) .nil)) (nd (o72 P) (nd (o114 P) (nd (o198 P) .nil .nil) .nil) (nd (o152 P) .nil .nil))) (nd (o28 P) (nd (o62 P) (nd (o103 P) (nd (boot_o_7 P) .nil .nil) .nil) (nd (boot_o_7 P) (nd (boot_o_8 P) .nil .nil) .nil)) (nd (o85 P) (nd (boot_o_7 P) (nd (o211 P) .nil .nil) .nil) (nd (o161 P) .nil .nil))))) (nd (boot_o_7 P) (nd (o5 P) (nd (o17 P) (nd (o28 P) (nd (boot_o_7 P) (nd (o170 P) .nil .nil) .nil) (nd (boot_o_8 P) (nd (boot_o_7 P) .nil .nil) .nil)) (nd (boot_o_8 P) (nd (boot_o_7 P) (nd (o194 P) .nil .nil) .nil) (nd (o150 P) .nil .nil))) (nd (o32 P) (nd (boot_o_8 P) (nd (o101 P) (nd (boot_o_7 P) .nil .nil) .nil) (nd (boot_o_7 P) (nd (o235 P) .nil .nil) .nil)) (nd (o82 P) (nd (o123 P) (nd (o209 P) .nil .nil) .nil) (nd (boot_o_7 P) .nil .nil)))) (nd (o12 P) (nd (o28 P) (nd (o52 P) (nd (o96 P) (nd (o179 P) .nil .nil) .nil) (nd (o136 P) (nd (o227 P) .nil .nil) .nil)) (nd (o74 P) (nd (o9 P) (nd (o202 P) .nil .nil) .nil) (nd (o155 P) .nil .nil))) (nd (boot_o_8 P) (nd (boot_o_7 P) (nd (o106 P) (nd (o189 P) .nil .nil) .nil) (nd (o145 P) (nd (o240 P) .nil .nil) .nil)) (nd (o87 P) (nd (boot_o_7 P) (nd (o215 P) .nil .nil) .nil) (nd (boot_o_8 P) .nil .nil)))))) (nd (boot_o_5 P) (nd (boot_o_9 P) (nd (o4 P) (nd (boot_o_7 P) (nd (o44 P) (nd (boot_o_8 P) (nd (o168 P) .nil .nil) .nil) (nd (o131 P) (nd (o9 P) .nil .nil) .nil)) (nd (o69 P) (nd (o109 P) (nd (boot_o_7 P) .nil .nil) .nil) (nd (boot_o_7 P) .nil .nil))) (nd (o31 P) (nd (o59 P) (nd (boot_o_7 P) (nd (boot_o_8 P) .nil .nil) .nil) (nd (boot_o_8 P) (nd (o233 P) .nil .nil) .nil)) (nd (o81 P) (nd (boot_o_7 P) (nd (o207 P) .nil .nil) .nil) (nd (o158 P) .nil .nil)))) (nd (boot_o_7 P) (nd (o23 P) (nd (o51 P) (nd (o95 P) (nd (o178 P) .nil .nil) .nil) (nd (boot_o_7 P) (nd (o226 P) .nil .nil) .nil)) (nd (boot_o_7 P) (nd (o116 P) (nd (o200 P) .nil .nil) .nil) (nd (o153 P) .nil .nil))) (nd (o39 P) (nd (o64 P) (nd (o104 P) (nd (o188 P) .nil .nil) .nil) (nd (o144 P) (nd (boot_o_7 P) .nil .nil) .nil)) (nd (boot_o_7 P) (nd (o126 P) (nd (o213 P) .nil .nil) .nil) (nd (o163 P) .nil .nil))))) (nd (o0 P) (nd (o7 P) (nd (o19 P) (nd (o49 P) (nd (o93 P) (nd (o172 P) .nil .nil) .nil) (nd (boot_o_7 P) (nd (o224 P) .nil .nil) .nil)) (nd (boot_o_7 P) (nd (o113 P) (nd (o196 P) .nil .nil) .nil) (nd (boot_o_7 P) .nil .nil))) (nd (o34 P) (nd (o61 P) (nd (boot_o_7 P) (nd (o184 P) .nil .nil) .nil) (nd (o142 P) (nd (o237 P) .nil .nil) .nil)) (nd (o84 P) (nd (boot_o_8 P) (nd (boot_o_8 P) .nil .nil) .nil) (nd (o160 P) .nil .nil)))) (nd (o14 P) (nd (o29 P) (nd (o54 P) (nd (o98 P) (nd (o81 P) .nil .nil) .nil) (nd (o137 P) (nd (o229 P) .nil .nil) .nil)) (nd (o75 P) (nd (boot_o_7 P) (nd (o9 P) .nil .nil) .nil) (nd (boot_o_8 P) .nil .nil))) (nd (o41 P) (nd (o66 P) (nd (boot_o_8 P) (nd (o191 P) .nil .nil) .nil) (nd (o147 P) .nil .nil)) (nd (o88 P) (nd (o128 P) (nd (o217 P) .nil .nil) .nil) (nd (boot_o_7 P) .nil .nil))))))) (nd (boot_o_2 P) (nd (boot_o_4 P) (nd (boot_o_8 P) (nd (boot_o_8 P) (nd (o15 P) (nd (o43 P) (nd (boot_o_7 P) (nd (o167 P) .nil .nil) .nil) (nd (o130 P) (nd (boot_o_7 P) .nil .nil) .nil)) (nd (o68 P) (nd (o108 P) (nd (o192 P) .nil .nil) .nil) (nd (o148 P) .nil .nil))) (nd (o30 P) (nd (o9 P) (nd (o99 P) (nd (boot_o_7 P) .nil .nil) .nil) (nd (boot_o_7 P) (nd (o232 P) .nil .nil) .nil)) (nd (o80 P) (nd (o122 P) (nd (o206 P) .nil .nil) .nil) (nd (o157 P) .nil .nil)))) (nd (o10 P) (nd (o22 P) (nd (o50 P) (nd (boot_o_8 P) (nd (o177 P) .nil .nil) .nil) (nd (o135 P) (nd (boot_o_8 P) .nil .nil) .nil)) (nd (o73 P) (nd (o115 P) (nd (o199 P) .nil .nil) .nil) (nd (boot_o_7 P) .nil .nil))) (nd (o9 P) (nd (o63 P) (nd (boot_o_7 P) (nd (o9 P) .nil .nil) .nil) (nd (boot_o_8 P) (nd (o238 P) .nil .nil) .nil)) (nd (o86 P) (nd (o125 P) (nd (o212 P) .nil .nil) .nil) (nd (o162 P) .nil .nil))))) (nd (o221 P) (nd (o6 P) (nd (o18 P) (nd (o9 P) (nd (o92 P) (nd (o171 P) .nil .nil) .nil) (nd (o132 P) (nd (o223 P) .nil .nil) .nil)) (nd (o70 P) (nd (boot_o_8 P) (nd (o195 P) .nil .nil) .nil) (nd (o151 P) .nil .nil))) (nd (o33 P) (nd (o60 P) (nd (o102 P) (nd (o183 P) .nil .nil) .nil) (nd (o141 P) (nd (o236 P) .nil .nil) .nil)) (nd (o83 P) (nd (boot_o_7 P) (nd (boot_o_7 P) .nil .nil) .nil) (nd (boot_o_8 P) .nil .nil)))) (nd (o13 P) (nd (o9 P) (nd (o53 P) (nd (o97 P) (nd (o180 P) .nil .nil) .nil) (nd (boot_o_7 P) (nd (o228 P) .nil .nil) .nil)) (nd (boot_o_7 P) (nd (o119 P) (nd (boot_o_7 P) .nil .nil) .nil) (nd (boot_o_7 P) .nil .nil))) (nd (o40 P) (nd (boot_o_8 P) (nd (boot_o_7 P) (nd (o190 P) .nil .nil) .nil) (nd (o146 P) (nd (o241 P) .nil .nil) .nil)) (nd (boot_o_7 P) (nd (boot_o_8 P) (nd (o216 P) .nil .nil) .nil) (nd (o164 P) .nil .nil)))))) (nd (boot_o_6 P) (nd (boot_o_10 P) (nd (boot_o_7 P) (nd (o16 P) (nd (o45 P) (nd (o91 P) (nd (o169 P) .nil .nil) .nil) (nd (boot_o_7 P) (nd (o222 P) .nil .nil) .nil)) (nd (boot_o_7 P) (nd (o110 P) (nd (o193 P) .nil .nil) .nil) (nd (o149 P) .nil .nil))) (nd (boot_o_7 P) (nd (boot_o_7 P) (nd (o100 P) (nd (o182 P) .nil .nil) .nil) (nd (o140 P) (nd (o234 P) .nil .nil) .nil)) (nd (boot_o_7 P) (nd (boot_o_7 P) (nd (o208 P) .nil .nil) .nil) (nd (o159 P) .nil .nil)))) (nd (o11 P) (nd (o24 P) (nd (boot_o_7 P) (nd (boot_o_7 P) (nd (boot_o_7 P) .nil .nil) .nil) (nd (boot_o_8 P) (nd (boot_o_7 P) .nil .nil) .nil)) (nd (boot_o_8 P) (nd (boot_o_7 P) (nd (o201 P) .nil .nil) .nil) (nd (o154 P) .nil .nil))) (nd (boot_o_7 P) (nd (o65 P) (nd (o105 P) (nd (boot_o_7 P) .nil .nil) .nil) (nd (boot_o_7 P) (nd (o239 P) .nil .nil) .nil)) (nd (boot_o_8 P) (nd (o127 P) (nd (o214 P) .nil .nil) .nil) (nd (boot_o_7 P) .nil .nil))))) (nd (o1 P) (nd (o8 P) (nd (o20 P) (nd (boot_o_7 P) (nd (o94 P) (nd (o173 P) .nil .nil) .nil) (nd (o133 P) (nd (o225 P) .nil .nil) .nil)) (nd (o71 P) (nd (boot_o_7 P) (nd (o197 P) .nil .nil) .nil) (nd (boot_o_8 P) .nil .nil))) (nd (o35 P) (nd (boot_o_7 P) (nd (boot_o_8 P) (nd (o185 P) .nil .nil) .nil) (nd (o143 P) (nd (boot_o_7 P) .nil .nil) .nil)) (nd (boot_o_7 P) (nd (o124 P) (nd (o210 P) .nil .nil) .nil) (nd (boot_o_7 P) .nil .nil)))) (nd (boot_o_7 P) (nd (boot_o_7 P) (nd (o55 P) (nd (boot_o_7 P) (nd (boot_o_7 P) .nil .nil) .nil) (nd (o138 P) (nd (o230 P) .nil .nil) .nil)) (nd (o76 P) (nd (o120 P) (nd (o205 P) .nil .nil) .nil) (nd (o156 P) .nil .nil))) (nd (boot_o_7 P) (nd (boot_o_7 P) (nd (o107 P) (nd (boot_o_7 P) .nil .nil) .nil) (nd (boot_o_7 P) .nil .nil)) (nd (o89 P) (nd (boot_o_7 P) (nd (o218 P) .nil .nil) .nil) (nd (o165 P) .nil .nil))))))))
noncomputable def hSt12 : List Stmt := pT (pD (behindTheImports pw) 34) 5
noncomputable def hT13 (P : Params) : BT := (nd (boot_o_0 P) (nd (boot_o_1 P) (nd (o242 P) (nd (boot_o_7 P) (nd (boot_o_7 P) (nd (boot_o_8 P) (nd (o42 P) (nd (o90 P) (nd (o166 P) .nil .nil) (nd (boot_o_8 P) .nil .nil)) (nd (o129 P) (nd (o219 P) .nil .nil) .nil)) (nd (o67 P) (nd (boot_o_7 P) (nd (boot_o_8 P) .nil .nil) .nil) (nd (boot_o_8 P) (nd (o244 P) .nil .nil) .nil))) (nd (boot_o_8 P) (nd (o28 P) (nd (boot_o_8 P) (nd (o181 P) .nil .nil) (nd (o275 P) .nil .nil)) (nd (o139 P) (nd (o231 P) .nil .nil) .nil)) (nd (o77 P) (nd (o121 P) (nd (boot_o_7 P) .nil .nil) .nil) (nd (boot_o_7 P) (nd (o257 P) .nil .nil) .nil)))) (nd (o9 P) (nd (o58 P) (nd (boot_o_8 P) (nd (boot_o_7 P) (nd (o174 P) .nil .nil) (nd (o270 P) .nil .nil)) (nd (o134 P) (nd (boot_o_7 P) .nil .nil) .nil)) (nd (o72 P) (nd (o114 P) (nd (o198 P) .nil .nil) .nil) (nd (o152 P) (nd (o249 P) .nil .nil) .nil))) (nd (o28 P) (nd (o62 P) (nd (o103 P) (nd (boot_o_7 P) .nil .nil) .nil) (nd (boot_o_7 P) (nd (boot_o_8 P) .nil .nil) .nil)) (nd (o85 P) (nd (boot_o_7 P) (nd (o211 P) .nil .nil) .nil) (nd (o161 P) (nd (boot_o_7 P) .nil .nil) .nil))))) (nd (boot_o_7 P) (nd (o5 P) (nd (o17 P) (nd (o28 P) (nd (boot_o_7 P) (nd (o170 P) .nil .nil) (nd (o268 P) .nil .nil)) (nd (boot_o_8 P) (nd (boot_o_7 P) .nil .nil) .nil)) (nd (boot_o_8 P) (nd (boot_o_7 P) (nd (o194 P) .nil .nil) .nil) (nd (o150 P) (nd (o247 P) .nil .nil) .nil))) (nd (o32 P) (nd (boot_o_8 P) (nd (o101 P) (nd (boot_o_7 P) .nil .nil) (nd (o278 P) .nil .nil)) (nd (boot_o_7 P) (nd (o235 P) .nil .nil) .nil)) (nd (o82 P) (nd (o123 P) (nd (o209 P) .nil .nil) .nil) (nd (boot_o_7 P) (nd (boot_o_7 P) .nil .nil) .nil)))) (nd (o12 P) (nd (o28 P) (nd (o52 P) (nd (o96 P) (nd (o179 P) .nil .nil) (nd (o273 P) .nil .nil)) (nd (o136 P) (nd (o227 P) .nil .nil) .nil)) (nd (o74 P) (nd (o9 P) (nd (o202 P) .nil .nil) .nil) (nd (o155 P) (nd (o253 P) .nil .nil) .nil))) (nd (boot_o_8 P) (nd (boot_o_7 P) (nd (o106 P) (nd (o189 P) .nil .nil) .nil) (nd (o145 P) (nd (o240 P) .nil .nil) .nil)) (nd (o87 P) (nd (boot_o_7 P) (nd (o215 P) .nil .nil) .nil) (nd (boot_o_8 P) (nd (o263 P) .nil .nil) .nil)))))) (nd (boot_o_5 P) (nd (boot_o_9 P) (nd (o4 P) (nd (boot_o_7 P) (nd (o44 P) (nd (boot_o_8 P) (nd (o168 P) .nil .nil) (nd (boot_o_7 P) .nil .nil)) (nd (o131 P) (nd (o9 P) .nil .nil) .nil)) (nd (o69 P) (nd (o109 P) (nd (boot_o_7 P) .nil .nil) .nil) (nd (boot_o_7 P) (nd (o245 P) .nil .nil) .nil))) (nd (o31 P) (nd (o59 P) (nd (boot_o_7 P) (nd (boot_o_8 P) .nil .nil) (nd (o276 P) .nil .nil)) (nd (boot_o_8 P) (nd (o233 P) .nil .nil) .nil)) (nd (o81 P) (nd (boot_o_7 P) (nd (o207 P) .nil .nil) .nil) (nd (o158 P) (nd (boot_o_8 P) .nil .nil) .nil)))) (nd (boot_o_7 P) (nd (o23 P) (nd (o51 P) (nd (o95 P) (nd (o178 P) .nil .nil) (nd (o271 P) .nil .nil)) (nd (boot_o_7 P) (nd (o226 P) .nil .nil) .nil)) (nd (boot_o_7 P) (nd (o116 P) (nd (o200 P) .nil .nil) .nil) (nd (o153 P) (nd (o251 P) .nil .nil) .nil))) (nd (o39 P) (nd (o64 P) (nd (o104 P) (nd (o188 P) .nil .nil) .nil) (nd (o144 P) (nd (boot_o_7 P) .nil .nil) .nil)) (nd (boot_o_7 P) (nd (o126 P) (nd (o213 P) .nil .nil) .nil) (nd (o163 P) (nd (o262 P) .nil .nil) .nil))))) (nd (o0 P) (nd (o7 P) (nd (o19 P) (nd (o49 P) (nd (o93 P) (nd (o172 P) .nil .nil) (nd (boot_o_7 P) .nil .nil)) (nd (boot_o_7 P) (nd (o224 P) .nil .nil) .nil)) (nd (boot_o_7 P) (nd (o113 P) (nd (o196 P) .nil .nil) .nil) (nd (boot_o_7 P) (nd (boot_o_8 P) .nil .nil) .nil))) (nd (o34 P) (nd (o61 P) (nd (boot_o_7 P) (nd (o184 P) .nil .nil) .nil) (nd (o142 P) (nd (o237 P) .nil .nil) .nil)) (nd (o84 P) (nd (boot_o_8 P) (nd (boot_o_8 P) .nil .nil) .nil) (nd (o160 P) (nd (o260 P) .nil .nil) .nil)))) (nd (o14 P) (nd (o29 P) (nd (o54 P) (nd (o98 P) (nd (o81 P) .nil .nil) (nd (boot_o_7 P) .nil .nil)) (nd (o137 P) (nd (o229 P) .nil .nil) .nil)) (nd (o75 P) (nd (boot_o_7 P) (nd (o9 P) .nil .nil) .nil) (nd (boot_o_8 P) (nd (o255 P) .nil .nil) .nil))) (nd (o41 P) (nd (o66 P) (nd (boot_o_8 P) (nd (o191 P) .nil .nil) .nil) (nd (o147 P) (nd (boot_o_7 P) .nil .nil) .nil)) (nd (o88 P) (nd (o128 P) (nd (o217 P) .nil .nil) .nil) (nd (boot_o_7 P) (nd (o265 P) .nil .nil) .nil))))))) (nd (boot_o_2 P) (nd (boot_o_4 P) (nd (boot_o_8 P) (nd (boot_o_8 P) (nd (o15 P) (nd (o43 P) (nd (boot_o_7 P) (nd (o167 P) .nil .nil) (nd (o266 P) .nil .nil)) (nd (o130 P) (nd (boot_o_7 P) .nil .nil) .nil)) (nd (o68 P) (nd (o108 P) (nd (o192 P) .nil .nil) .nil) (nd (o148 P) (nd (boot_o_7 P) .nil .nil) .nil))) (nd (o30 P) (nd (o9 P) (nd (o99 P) (nd (boot_o_7 P) .nil .nil) (nd (boot_o_7 P) .nil .nil)) (nd (boot_o_7 P) (nd (o232 P) .nil .nil) .nil)) (nd (o80 P) (nd (o122 P) (nd (o206 P) .nil .nil) .nil) (nd (o157 P) (nd (boot_o_7 P) .nil .nil) .nil)))) (nd (o10 P) (nd (o22 P) (nd (o50 P) (nd (boot_o_8 P) (nd (o177 P) .nil .nil) (nd (boot_o_7 P) .nil .nil)) (nd (o135 P) (nd (boot_o_8 P) .nil .nil) .nil)) (nd (o73 P) (nd (o115 P) (nd (o199 P) .nil .nil) .nil) (nd (boot_o_7 P) (nd (o250 P) .nil .nil) .nil))) (nd (o9 P) (nd (o63 P) (nd (boot_o_7 P) (nd (o9 P) .nil .nil) .nil) (nd (boot_o_8 P) (nd (o238 P) .nil .nil) .nil)) (nd (o86 P) (nd (o125 P) (nd (o212 P) .nil .nil) .nil) (nd (o162 P) (nd (boot_o_8 P) .nil .nil) .nil))))) (nd (o243 P) (nd (o6 P) (nd (o18 P) (nd (o9 P) (nd (o92 P) (nd (o171 P) .nil .nil) (nd (o269 P) .nil .nil)) (nd (o132 P) (nd (o223 P) .nil .nil) .nil)) (nd (o70 P) (nd (boot_o_8 P) (nd (o195 P) .nil .nil) .nil) (nd (o151 P) (nd (boot_o_7 P) .nil .nil) .nil))) (nd (o33 P) (nd (o60 P) (nd (o102 P) (nd (o183 P) .nil .nil) .nil) (nd (o141 P) (nd (o236 P) .nil .nil) .nil)) (nd (o83 P) (nd (boot_o_7 P) (nd (boot_o_7 P) .nil .nil) .nil) (nd (boot_o_8 P) (nd (o259 P) .nil .nil) .nil)))) (nd (o13 P) (nd (o9 P) (nd (o53 P) (nd (o97 P) (nd (o180 P) .nil .nil) (nd (o274 P) .nil .nil)) (nd (boot_o_7 P) (nd (o228 P) .nil .nil) .nil)) (nd (boot_o_7 P) (nd (o119 P) (nd (boot_o_7 P) .nil .nil) .nil) (nd (boot_o_7 P) (nd (o254 P) .nil .nil) .nil))) (nd (o40 P) (nd (boot_o_8 P) (nd (boot_o_7 P) (nd (o190 P) .nil .nil) .nil) (nd (o146 P) (nd (o241 P) .nil .nil) .nil)) (nd (boot_o_7 P) (nd (boot_o_8 P) (nd (o216 P) .nil .nil) .nil) (nd (o164 P) (nd (o264 P) .nil .nil) .nil)))))) (nd (boot_o_6 P) (nd (boot_o_10 P) (nd (boot_o_7 P) (nd (o16 P) (nd (o45 P) (nd (o91 P) (nd (o169 P) .nil .nil) (nd (o267 P) .nil .nil)) (nd (boot_o_7 P) (nd (o222 P) .nil .nil) .nil)) (nd (boot_o_7 P) (nd (o110 P) (nd (o193 P) .nil .nil) .nil) (nd (o149 P) (nd (o246 P) .nil .nil) .nil))) (nd (boot_o_7 P) (nd (boot_o_7 P) (nd (o100 P) (nd (o182 P) .nil .nil) (nd (o277 P) .nil .nil)) (nd (o140 P) (nd (o234 P) .nil .nil) .nil)) (nd (boot_o_7 P) (nd (boot_o_7 P) (nd (o208 P) .nil .nil) .nil) (nd (o159 P) (nd (o258 P) .nil .nil) .nil)))) (nd (o11 P) (nd (o24 P) (nd (boot_o_7 P) (nd (boot_o_7 P) (nd (boot_o_7 P) .nil .nil) (nd (o272 P) .nil .nil)) (nd (boot_o_8 P) (nd (boot_o_7 P) .nil .nil) .nil)) (nd (boot_o_8 P) (nd (boot_o_7 P) (nd (o201 P) .nil .nil) .nil) (nd (o154 P) (nd (o252 P) .nil .nil) .nil))) (nd (boot_o_7 P) (nd (o65 P) (nd (o105 P) (nd (boot_o_7 P) .nil .nil) .nil) (nd (boot_o_7 P) (nd (o239 P) .nil .nil) .nil)) (nd (boot_o_8 P) (nd (o127 P) (nd (o214 P) .nil .nil) .nil) (nd (boot_o_7 P) (nd (boot_o_7 P) .nil .nil) .nil))))) (nd (o1 P) (nd (o8 P) (nd (o20 P) (nd (boot_o_7 P) (nd (o94 P) (nd (o173 P) .nil .nil) (nd (boot_o_8 P) .nil .nil)) (nd (o133 P) (nd (o225 P) .nil .nil) .nil)) (nd (o71 P) (nd (boot_o_7 P) (nd (o197 P) .nil .nil) .nil) (nd (boot_o_8 P) (nd (o248 P) .nil .nil) .nil))) (nd (o35 P) (nd (boot_o_7 P) (nd (boot_o_8 P) (nd (o185 P) .nil .nil) .nil) (nd (o143 P) (nd (boot_o_7 P) .nil .nil) .nil)) (nd (boot_o_7 P) (nd (o124 P) (nd (o210 P) .nil .nil) .nil) (nd (boot_o_7 P) (nd (o261 P) .nil .nil) .nil)))) (nd (boot_o_7 P) (nd (boot_o_7 P) (nd (o55 P) (nd (boot_o_7 P) (nd (boot_o_7 P) .nil .nil) (nd (boot_o_8 P) .nil .nil)) (nd (o138 P) (nd (o230 P) .nil .nil) .nil)) (nd (o76 P) (nd (o120 P) (nd (o205 P) .nil .nil) .nil) (nd (o156 P) (nd (o256 P) .nil .nil) .nil))) (nd (boot_o_7 P) (nd (boot_o_7 P) (nd (o107 P) (nd (boot_o_7 P) .nil .nil) .nil) (nd (boot_o_7 P) (nd (o9 P) .nil .nil) .nil)) (nd (o89 P) (nd (boot_o_7 P) (nd (o218 P) .nil .nil) .nil) (nd (o165 P) (nd (boot_o_7 P) .nil .nil) .nil))))))))
noncomputable def hSt13 : List Stmt := pT (pD (behindTheImports pw) 39) 6
noncomputable def hT14 (P : Params) : BT := (nd (boot_o_0 P) (nd (boot_o_1 P) (nd (o279 P) (nd (boot_o_7 P) (nd (boot_o_7 P) (nd (boot_o_8 P) (nd (o42 P) (nd (o90 P) (nd (o166 P) .nil .nil) (nd (boot_o_8 P) .nil .nil)) (nd (o129 P) (nd (o219 P) .nil .nil) (nd (o306 P) .nil .nil))) (nd (o67 P) (nd (boot_o_7 P) (nd (boot_o_8 P) .nil .nil) (nd (boot_o_7 P) .nil .nil)) (nd (boot_o_8 P) (nd (o244 P) .nil .nil) .nil))) (nd (boot_o_8 P) (nd (o28 P) (nd (boot_o_8 P) (nd (o181 P) .nil .nil) (nd (o275 P) .nil .nil)) (nd (o139 P) (nd (o231 P) .nil .nil) .nil)) (nd (o77 P) (nd (o121 P) (nd (boot_o_7 P) .nil .nil) (nd (boot_o_7 P) .nil .nil)) (nd (boot_o_7 P) (nd (o257 P) .nil .nil) .nil)))) (nd (o9 P) (nd (o58 P) (nd (boot_o_8 P) (nd (boot_o_7 P) (nd (o174 P) .nil .nil) (nd (o270 P) .nil .nil)) (nd (o134 P) (nd (boot_o_7 P) .nil .nil) (nd (boot_o_7 P) .nil .nil))) (nd (o72 P) (nd (o114 P) (nd (o198 P) .nil .nil) (nd (o291 P) .nil .nil)) (nd (o152 P) (nd (o249 P) .nil .nil) .nil))) (nd (o28 P) (nd (o62 P) (nd (o103 P) (nd (boot_o_7 P) .nil .nil) (nd (o282 P) .nil .nil)) (nd (boot_o_7 P) (nd (boot_o_8 P) .nil .nil) .nil)) (nd (o85 P) (nd (boot_o_7 P) (nd (o211 P) .nil .nil) (nd (o301 P) .nil .nil)) (nd (o161 P) (nd (boot_o_7 P) .nil .nil) .nil))))) (nd (boot_o_7 P) (nd (o5 P) (nd (o17 P) (nd (o28 P) (nd (boot_o_7 P) (nd (o170 P) .nil .nil) (nd (o268 P) .nil .nil)) (nd (boot_o_8 P) (nd (boot_o_7 P) .nil .nil) (nd (boot_o_7 P) .nil .nil))) (nd (boot_o_8 P) (nd (boot_o_7 P) (nd (o194 P) .nil .nil) (nd (boot_o_7 P) .nil .nil)) (nd (o150 P) (nd (o247 P) .nil .nil) .nil))) (nd (o32 P) (nd (boot_o_8 P) (nd (o101 P) (nd (boot_o_7 P) .nil .nil) (nd (o278 P) .nil .nil)) (nd (boot_o_7 P) (nd (o235 P) .nil .nil) .nil)) (nd (o82 P) (nd (o123 P) (nd (o209 P) .nil .nil) (nd (o299 P) .nil .nil)) (nd (boot_o_7 P) (nd (boot_o_7 P) .nil .nil) .nil)))) (nd (o12 P) (nd (o28 P) (nd (o52 P) (nd (o96 P) (nd (o179 P) .nil .nil) (nd (o273 P) .nil .nil)) (nd (o136 P) (nd (o227 P) .nil .nil) (nd (o313 P) .nil .nil))) (nd (o74 P) (nd (o9 P) (nd (o202 P) .nil .nil) (nd (boot_o_8 P) .nil .nil)) (nd (o155 P) (nd (o253 P) .nil .nil) .nil))) (nd (boot_o_8 P) (nd (boot_o_7 P) (nd (o106 P) (nd (o189 P) .nil .nil) (nd (o285 P) .nil .nil)) (nd (o145 P) (nd (o240 P) .nil .nil) .nil)) (nd (o87 P) (nd (boot_o_7 P) (nd (o215 P) .nil .nil) (nd (o303 P) .nil .nil)) (nd (boot_o_8 P) (nd (o263 P) .nil .nil) .nil)))))) (nd (boot_o_5 P) (nd (boot_o_9 P) (nd (o4 P) (nd (boot_o_7 P) (nd (o44 P) (nd (boot_o_8 P) (nd (o168 P) .nil .nil) (nd (boot_o_7 P) .nil .nil)) (nd (o131 P) (nd (o9 P) .nil .nil) (nd (boot_o_8 P) .nil .nil))) (nd (o69 P) (nd (o109 P) (nd (boot_o_7 P) .nil .nil) (nd (o288 P) .nil .nil)) (nd (boot_o_7 P) (nd (o245 P) .nil .nil) .nil))) (nd (o31 P) (nd (o59 P) (nd (boot_o_7 P) (nd (boot_o_8 P) .nil .nil) (nd (o276 P) .nil .nil)) (nd (boot_o_8 P) (nd (o233 P) .nil .nil) .nil)) (nd (o81 P) (nd (boot_o_7 P) (nd (o207 P) .nil .nil) (nd (o297 P) .nil .nil)) (nd (o158 P) (nd (boot_o_8 P) .nil .nil) .nil)))) (nd (boot_o_7 P) (nd (o23 P) (nd (o51 P) (nd (o95 P) (nd (o178 P) .nil .nil) (nd (o271 P) .nil .nil)) (nd (boot_o_7 P) (nd (o226 P) .nil .nil) (nd (o311 P) .nil .nil))) (nd (boot_o_7 P) (nd (o116 P) (nd (o200 P) .nil .nil) (nd (o293 P) .nil .nil)) (nd (o153 P) (nd (o251 P) .nil .nil) .nil))) (nd (o39 P) (nd (o64 P) (nd (o104 P) (nd (o188 P) .nil .nil) (nd (o283 P) .nil .nil)) (nd (o144 P) (nd (boot_o_7 P) .nil .nil) .nil)) (nd (boot_o_7 P) (nd (o126 P) (nd (o213 P) .nil .nil) (nd (boot_o_7 P) .nil .nil)) (nd (o163 P) (nd (o262 P) .nil .nil) .nil))))) (nd (o0 P) (nd (o7 P) (nd (o19 P) (nd (o49 P) (nd (o93 P) (nd (o172 P) .nil .nil) (nd (boot_o_7 P) .nil .nil)) (nd (boot_o_7 P) (nd (o224 P) .nil .nil) (nd (o309 P) .nil .nil))) (nd (boot_o_7 P) (nd (o113 P) (nd (o196 P) .nil .nil) (nd (o290 P) .nil .nil)) (nd (boot_o_7 P) (nd (boot_o_8 P) .nil .nil) .nil))) (nd (o34 P) (nd (o61 P) (nd (boot_o_7 P) (nd (o184 P) .nil .nil) (nd (boot_o_7 P) .nil .nil)) (nd (o142 P) (nd (o237 P) .nil .nil) .nil)) (nd (o84 P) (nd (boot_o_8 P) (nd (boot_o_8 P) .nil .nil) (nd (boot_o_8 P) .nil .nil)) (nd (o160 P) (nd (o260 P) .nil .nil) .nil)))) (nd (o14 P) (nd (o29 P) (nd (o54 P) (nd (o98 P) (nd (o81 P) .nil .nil) (nd (boot_o_7 P) .nil .nil)) (nd (o137 P) (nd (o229 P) .nil .nil) .nil)) (nd (o75 P) (nd (boot_o_7 P) (nd (o9 P) .nil .nil) (nd (o295 P) .nil .nil)) (nd (boot_o_8 P) (nd (o255 P) .nil .nil) .nil))) (nd (o41 P) (nd (o66 P) (nd (boot_o_8 P) (nd (o191 P) .nil .nil) (nd (boot_o_8 P) .nil .nil)) (nd (o147 P) (nd (boot_o_7 P) .nil .nil) .nil)) (nd (o88 P) (nd (o128 P) (nd (o217 P) .nil .nil) (nd (o304 P) .nil .nil)) (nd (boot_o_7 P) (nd (o265 P) .nil .nil) .nil))))))) (nd (boot_o_2 P) (nd (boot_o_4 P) (nd (boot_o_8 P) (nd (boot_o_8 P) (nd (o15 P) (nd (o43 P) (nd (boot_o_7 P) (nd (o167 P) .nil .nil) (nd (o266 P) .nil .nil)) (nd (o130 P) (nd (boot_o_7 P) .nil .nil) (nd (boot_o_7 P) .nil .nil))) (nd (o68 P) (nd (o108 P) (nd (o192 P) .nil .nil) (nd (o287 P) .nil .nil)) (nd (o148 P) (nd (boot_o_7 P) .nil .nil) .nil))) (nd (o30 P) (nd (o9 P) (nd (o99 P) (nd (boot_o_7 P) .nil .nil) (nd (boot_o_7 P) .nil .nil)) (nd (boot_o_7 P) (nd (o232 P) .nil .nil) .nil)) (nd (o80 P) (nd (o122 P) (nd (o206 P) .nil .nil) (nd (boot_o_8 P) .nil .nil)) (nd (o157 P) (nd (boot_o_7 P) .nil .nil) .nil)))) (nd (o10 P) (nd (o22 P) (nd (o50 P) (nd (boot_o_8 P) (nd (o177 P) .nil .nil) (nd (boot_o_7 P) .nil .nil)) (nd (o135 P) (nd (boot_o_8 P) .nil .nil) (nd (boot_o_8 P) .nil .nil))) (nd (o73 P) (nd (o115 P) (nd (o199 P) .nil .nil) (nd (o292 P) .nil .nil)) (nd (boot_o_7 P) (nd (o250 P) .nil .nil) .nil))) (nd (o9 P) (nd (o63 P) (nd (boot_o_7 P) (nd (o9 P) .nil .nil) (nd (boot_o_7 P) .nil .nil)) (nd (boot_o_8 P) (nd (o238 P) .nil .nil) .nil)) (nd (o86 P) (nd (o125 P) (nd (o212 P) .nil .nil) (nd (o302 P) .nil .nil)) (nd (o162 P) (nd (boot_o_8 P) .nil .nil) .nil))))) (nd (o280 P) (nd (o6 P) (nd (o18 P) (nd (o9 P) (nd (o92 P) (nd (o171 P) .nil .nil) (nd (o269 P) .nil .nil)) (nd (o132 P) (nd (o223 P) .nil .nil) (nd (o308 P) .nil .nil))) (nd (o70 P) (nd (boot_o_8 P) (nd (o195 P) .nil .nil) (nd (boot_o_8 P) .nil .nil)) (nd (o151 P) (nd (boot_o_7 P) .nil .nil) .nil))) (nd (o33 P) (nd (o60 P) (nd (o102 P) (nd (o183 P) .nil .nil) (nd (o281 P) .nil .nil)) (nd (o141 P) (nd (o236 P) .nil .nil) .nil)) (nd (o83 P) (nd (boot_o_7 P) (nd (boot_o_7 P) .nil .nil) (nd (boot_o_7 P) .nil .nil)) (nd (boot_o_8 P) (nd (o259 P) .nil .nil) .nil)))) (nd (o13 P) (nd (o9 P) (nd (o53 P) (nd (o97 P) (nd (o180 P) .nil .nil) (nd (o274 P) .nil .nil)) (nd (boot_o_7 P) (nd (o228 P) .nil .nil) .nil)) (nd (boot_o_7 P) (nd (o119 P) (nd (boot_o_7 P) .nil .nil) (nd (o294 P) .nil .nil)) (nd (boot_o_7 P) (nd (o254 P) .nil .nil) .nil))) (nd (o40 P) (nd (boot_o_8 P) (nd (boot_o_7 P) (nd (o190 P) .nil .nil) (nd (boot_o_7 P) .nil .nil)) (nd (o146 P) (nd (o241 P) .nil .nil) .nil)) (nd (boot_o_7 P) (nd (boot_o_8 P) (nd (o216 P) .nil .nil) (nd (boot_o_7 P) .nil .nil)) (nd (o164 P) (nd (o264 P) .nil .nil) .nil)))))) (nd (boot_o_6 P) (nd (boot_o_10 P) (nd (boot_o_7 P) (nd (o16 P) (nd (o45 P) (nd (o91 P) (nd (o169 P) .nil .nil) (nd (o267 P) .nil .nil)) (nd (boot_o_7 P) (nd (o222 P) .nil .nil) (nd (o307 P) .nil .nil))) (nd (boot_o_7 P) (nd (o110 P) (nd (o193 P) .nil .nil) (nd (o289 P) .nil .nil)) (nd (o149 P) (nd (o246 P) .nil .nil) .nil))) (nd (boot_o_7 P) (nd (boot_o_7 P) (nd (o100 P) (nd (o182 P) .nil .nil) (nd (o277 P) .nil .nil)) (nd (o140 P) (nd (o234 P) .nil .nil) .nil)) (nd (boot_o_7 P) (nd (boot_o_7 P) (nd (o208 P) .nil .nil) (nd (o298 P) .nil .nil)) (nd (o159 P) (nd (o258 P) .nil .nil) .nil)))) (nd (o11 P) (nd (o24 P) (nd (boot_o_7 P) (nd (boot_o_7 P) (nd (boot_o_7 P) .nil .nil) (nd (o272 P) .nil .nil)) (nd (boot_o_8 P) (nd (boot_o_7 P) .nil .nil) (nd (o312 P) .nil .nil))) (nd (boot_o_8 P) (nd (boot_o_7 P) (nd (o201 P) .nil .nil) (nd (boot_o_7 P) .nil .nil)) (nd (o154 P) (nd (o252 P) .nil .nil) .nil))) (nd (boot_o_7 P) (nd (o65 P) (nd (o105 P) (nd (boot_o_7 P) .nil .nil) (nd (o284 P) .nil .nil)) (nd (boot_o_7 P) (nd (o239 P) .nil .nil) .nil)) (nd (boot_o_8 P) (nd (o127 P) (nd (o214 P) .nil .nil) (nd (boot_o_8 P) .nil .nil)) (nd (boot_o_7 P) (nd (boot_o_7 P) .nil .nil) .nil))))) (nd (o1 P) (nd (o8 P) (nd (o20 P) (nd (boot_o_7 P) (nd (o94 P) (nd (o173 P) .nil .nil) (nd (boot_o_8 P) .nil .nil)) (nd (o133 P) (nd (o225 P) .nil .nil) (nd (o310 P) .nil .nil))) (nd (o71 P) (nd (boot_o_7 P) (nd (o197 P) .nil .nil) (nd (boot_o_7 P) .nil .nil)) (nd (boot_o_8 P) (nd (o248 P) .nil .nil) .nil))) (nd (o35 P) (nd (boot_o_7 P) (nd (boot_o_8 P) (nd (o185 P) .nil .nil) (nd (boot_o_8 P) .nil .nil)) (nd (o143 P) (nd (boot_o_7 P) .nil .nil) .nil)) (nd (boot_o_7 P) (nd (o124 P) (nd (o210 P) .nil .nil) (nd (o300 P) .nil .nil)) (nd (boot_o_7 P) (nd (o261 P) .nil .nil) .nil)))) (nd (boot_o_7 P) (nd (boot_o_7 P) (nd (o55 P) (nd (boot_o_7 P) (nd (boot_o_7 P) .nil .nil) (nd (boot_o_8 P) .nil .nil)) (nd (o138 P) (nd (o230 P) .nil .nil) .nil)) (nd (o76 P) (nd (o120 P) (nd (o205 P) .nil .nil) (nd (o296 P) .nil .nil)) (nd (o156 P) (nd (o256 P) .nil .nil) .nil))) (nd (boot_o_7 P) (nd (boot_o_7 P) (nd (o107 P) (nd (boot_o_7 P) .nil .nil) (nd (o286 P) .nil .nil)) (nd (boot_o_7 P) (nd (o9 P) .nil .nil) .nil)) (nd (o89 P) (nd (boot_o_7 P) (nd (o218 P) .nil .nil) (nd (o305 P) .nil .nil)) (nd (o165 P) (nd (boot_o_7 P) .nil .nil) .nil))))))))
noncomputable def hSt14 : List Stmt := pT (pD (behindTheImports pw) 45) 11
noncomputable def hHf (P : Params) : Heap := ⟨Array.mk [boot_o_0 P, boot_o_1 P, boot_o_2 P, o279 P, boot_o_4 P, boot_o_5 P, boot_o_6 P, boot_o_7 P, boot_o_8 P, boot_o_9 P, boot_o_10 P, boot_o_7 P, o280 P, o0 P, o1 P, boot_o_7 P, boot_o_8 P, o4 P, boot_o_7 P, o5 P, o6 P, o7 P, o8 P, o9 P, o10 P, boot_o_7 P, o11 P, o12 P, o13 P, o14 P, boot_o_7 P, boot_o_8 P, o15 P, boot_o_7 P, o16 P, o17 P, o18 P, o19 P, o20 P, o58 P, o22 P, o23 P, o24 P, o28 P, o9 P, o29 P, boot_o_7 P, boot_o_8 P, o30 P, o31 P, boot_o_7 P, o32 P, o33 P, o34 P, o35 P, o28 P, o9 P, o39 P, boot_o_7 P, boot_o_8 P, o40 P, o41 P, boot_o_7 P, o42 P, o43 P, o44 P, o45 P, o28 P, o9 P, o49 P, boot_o_7 P, boot_o_8 P, o50 P, o51 P, boot_o_7 P, o52 P, o53 P, o54 P, o55 P, o28 P, o9 P, o59 P, boot_o_7 P, boot_o_8 P, o60 P, o61 P, boot_o_7 P, o62 P, o63 P, o64 P, o65 P, boot_o_7 P, boot_o_8 P, o66 P, boot_o_7 P, o67 P, o68 P, o69 P, boot_o_7 P, boot_o_8 P, o70 P, boot_o_7 P, o71 P, o72 P, o73 P, boot_o_7 P, boot_o_8 P, o74 P, boot_o_7 P, o75 P, o76 P, o77 P, o80 P, o81 P, boot_o_7 P, o82 P, o83 P, o84 P, boot_o_7 P, o85 P, o86 P, boot_o_7 P, boot_o_8 P, o87 P, boot_o_7 P, o88 P, o89 P, o90 P, boot_o_7 P, boot_o_8 P, o91 P, boot_o_7 P, o92 P, o93 P, o94 P, boot_o_7 P, boot_o_8 P, o95 P, boot_o_7 P, o96 P, o97 P, o98 P, boot_o_7 P, boot_o_8 P, o99 P, boot_o_7 P, o100 P, o101 P, o102 P, boot_o_7 P, boot_o_8 P, o103 P, boot_o_7 P, o104 P, o105 P, o106 P, boot_o_7 P, boot_o_8 P, o107 P, boot_o_7 P, o108 P, o109 P, o110 P, boot_o_7 P, boot_o_8 P, o113 P, boot_o_7 P, o114 P, o115 P, o116 P, boot_o_7 P, o9 P, o119 P, boot_o_7 P, o120 P, o121 P, o122 P, boot_o_7 P, boot_o_7 P, o123 P, boot_o_7 P, boot_o_8 P, o124 P, boot_o_7 P, o125 P, o126 P, o127 P, boot_o_7 P, boot_o_8 P, o128 P, boot_o_7 P, o129 P, o130 P, o131 P, boot_o_7 P, boot_o_8 P, o132 P, boot_o_7 P, o133 P, o134 P, o135 P, boot_o_7 P, boot_o_8 P, o136 P, boot_o_7 P, o137 P, o138 P, o139 P, boot_o_7 P, boot_o_8 P, o140 P, boot_o_7 P, o141 P, o142 P, o143 P, boot_o_7 P, boot_o_8 P, o144 P, boot_o_7 P, o145 P, o146 P, o147 P, boot_o_7 P, boot_o_8 P, o148 P, boot_o_7 P, o149 P, o150 P, o151 P, boot_o_7 P, boot_o_8 P, o152 P, boot_o_7 P, o153 P, o154 P, o155 P, boot_o_7 P, boot_o_8 P, o156 P, boot_o_7 P, o157 P, o158 P, o159 P, boot_o_7 P, boot_o_8 P, o160 P, boot_o_7 P, o161 P, o162 P, o163 P, boot_o_7 P, boot_o_8 P, o164 P, boot_o_7 P, o165 P, o166 P, o167 P, o168 P, o169 P, o170 P, o171 P, o172 P, o173 P, o174 P, o177 P, o178 P, boot_o_7 P, o179 P, o180 P, o81 P, boot_o_7 P, o181 P, boot_o_7 P, boot_o_8 P, o182 P, boot_o_7 P, o183 P, o184 P, o185 P, boot_o_7 P, o9 P, o188 P, boot_o_7 P, o189 P, o190 P, o191 P, boot_o_7 P, boot_o_8 P, o192 P, boot_o_7 P, o193 P, o194 P, o195 P, o196 P, o197 P, o198 P, o199 P, o200 P, o201 P, o202 P, boot_o_7 P, o9 P, o205 P, boot_o_7 P, o206 P, o207 P, o208 P, o209 P, boot_o_7 P, boot_o_8 P, o210 P, o211 P, o212 P, o213 P, o214 P, o215 P, o216 P, o217 P, o218 P, o219 P, boot_o_7 P, o9 P, o222 P, boot_o_7 P, o223 P, o224 P, o225 P, boot_o_7 P, boot_o_8 P, o226 P, boot_o_7 P, o227 P, o228 P, o229 P, o230 P, o231 P, o232 P, o233 P, o234 P, o235 P, o236 P, o237 P, boot_o_7 P, boot_o_8 P, o238 P, boot_o_7 P, o239 P, o240 P, o241 P, boot_o_7 P, o9 P, o244 P, boot_o_7 P, o245 P, o246 P, o247 P, boot_o_7 P, boot_o_8 P, o248 P, o249 P, o250 P, o251 P, o252 P, o253 P, o254 P, o255 P, o256 P, o257 P, boot_o_7 P, boot_o_8 P, o258 P, boot_o_7 P, o259 P, o260 P, o261 P, boot_o_7 P, boot_o_8 P, o262 P, boot_o_7 P, o263 P, o264 P, o265 P, boot_o_7 P, boot_o_8 P, o266 P, boot_o_7 P, o267 P, o268 P, o269 P, boot_o_7 P, boot_o_8 P, o270 P, boot_o_7 P, o271 P, o272 P, o273 P, o274 P, boot_o_7 P, boot_o_8 P, o275 P, boot_o_7 P, o276 P, o277 P, o278 P, o281 P, boot_o_7 P, boot_o_8 P, o282 P, boot_o_7 P, o283 P, o284 P, o285 P, boot_o_7 P, boot_o_8 P, o286 P, boot_o_7 P, o287 P, o288 P, o289 P, boot_o_7 P, boot_o_8 P, o290 P, boot_o_7 P, o291 P, o292 P, o293 P, boot_o_7 P, boot_o_8 P, o294 P, o295 P, o296 P, boot_o_7 P, boot_o_8 P, o297 P, o298 P, o299 P, boot_o_7 P, boot_o_8 P, o300 P, o301 P, o302 P, boot_o_7 P, boot_o_8 P, o303 P, boot_o_7 P, o304 P, o305 P, o306 P, boot_o_7 P, boot_o_8 P, o307 P, boot_o_7 P, o308 P, o309 P, o310 P, boot_o_7 P, boot_o_8 P, o311 P, o312 P, o313 P], (Life.mk [] [] [] 0 [] [] false (List.toArray []) [] 0 false false false 0 [2000, 10, 10] false 0 true [] [] 0 false)⟩
noncomputable abbrev hSf (w : World) (os : OsState) : Shared := (⟨hHf w.params, (Array.mk []), (Drawn.mk 0 0 0 0), 894, os⟩ : Shared)
theorem hBody : (behindTheImports pw) = (hSt1 ++ (hSt2 ++ (hSt3 ++ (hSt4 ++ (hSt5 ++ (hSt6 ++ (hSt7 ++ (hSt8 ++ (hSt9 ++ (hSt10 ++ (hSt11 ++ (hSt12 ++ (hSt13 ++ (hSt14 ++ [])))))))))))))) := by kernel_rfl
noncomputable def hK (P : Params) : Frag := (nat_lit 2, boot_o_2 P) :: (nat_lit 3, o279 P) :: (nat_lit 15, boot_o_7 P) :: (nat_lit 17, o4 P) :: (nat_lit 18, boot_o_7 P) :: (nat_lit 20, o6 P) :: (nat_lit 21, o7 P) :: (nat_lit 22, o8 P) :: (nat_lit 29, o14 P) :: (nat_lit 30, boot_o_7 P) :: (nat_lit 32, o15 P) :: (nat_lit 33, boot_o_7 P) :: (nat_lit 35, o17 P) :: (nat_lit 36, o18 P) :: (nat_lit 37, o19 P) :: (nat_lit 38, o20 P) :: (nat_lit 39, o58 P) :: (nat_lit 40, o22 P) :: (nat_lit 43, o28 P) :: (nat_lit 50, boot_o_7 P) :: (nat_lit 51, o32 P) :: (nat_lit 52, o33 P) :: (nat_lit 55, o28 P) :: (nat_lit 62, boot_o_7 P) :: (nat_lit 63, o42 P) :: (nat_lit 64, o43 P) :: (nat_lit 67, o28 P) :: (nat_lit 74, boot_o_7 P) :: (nat_lit 75, o52 P) :: (nat_lit 76, o53 P) :: (nat_lit 79, o28 P) :: (nat_lit 86, boot_o_7 P) :: (nat_lit 87, o62 P) :: (nat_lit 88, o63 P) :: (nat_lit 91, boot_o_7 P) :: (nat_lit 93, o66 P) :: (nat_lit 94, boot_o_7 P) :: (nat_lit 96, o68 P) :: (nat_lit 97, o69 P) :: (nat_lit 98, boot_o_7 P) :: (nat_lit 100, o70 P) :: (nat_lit 101, boot_o_7 P) :: (nat_lit 103, o72 P) :: (nat_lit 104, o73 P) :: (nat_lit 105, boot_o_7 P) :: (nat_lit 107, o74 P) :: (nat_lit 108, boot_o_7 P) :: (nat_lit 110, o76 P) :: (nat_lit 111, o77 P) :: (nat_lit 120, o86 P) :: (nat_lit 121, boot_o_7 P) :: (nat_lit 123, o87 P) :: (nat_lit 124, boot_o_7 P) :: (nat_lit 126, o89 P) :: (nat_lit 127, o90 P) :: (nat_lit 128, boot_o_7 P) :: (nat_lit 130, o91 P) :: (nat_lit 131, boot_o_7 P) :: (nat_lit 133, o93 P) :: (nat_lit 134, o94 P) :: (nat_lit 135, boot_o_7 P) :: (nat_lit 137, o95 P) :: (nat_lit 138, boot_o_7 P) :: (nat_lit 140, o97 P) :: (nat_lit 141, o98 P) :: (nat_lit 142, boot_o_7 P) :: (nat_lit 144, o99 P) :: (nat_lit 145, boot_o_7 P) :: (nat_lit 147, o101 P) :: (nat_lit 148, o102 P) :: (nat_lit 149, boot_o_7 P) :: (nat_lit 151, o103 P) :: (nat_lit 152, boot_o_7 P) :: (nat_lit 154, o105 P) :: (nat_lit 155, o106 P) :: (nat_lit 156, boot_o_7 P) :: (nat_lit 158, o107 P) :: (nat_lit 159, boot_o_7 P) :: (nat_lit 161, o109 P) :: (nat_lit 162, o110 P) :: (nat_lit 163, boot_o_7 P) :: (nat_lit 165, o113 P) :: (nat_lit 166, boot_o_7 P) :: (nat_lit 168, o115 P) :: (nat_lit 169, o116 P) :: (nat_lit 177, boot_o_7 P) :: (nat_lit 178, boot_o_7 P) :: (nat_lit 179, o123 P) :: (nat_lit 180, boot_o_7 P) :: (nat_lit 182, o124 P) :: (nat_lit 183, boot_o_7 P) :: (nat_lit 185, o126 P) :: (nat_lit 186, o127 P) :: (nat_lit 187, boot_o_7 P) :: (nat_lit 189, o128 P) :: (nat_lit 190, boot_o_7 P) :: (nat_lit 192, o130 P) :: (nat_lit 193, o131 P) :: (nat_lit 194, boot_o_7 P) :: (nat_lit 196, o132 P) :: (nat_lit 197, boot_o_7 P) :: (nat_lit 199, o134 P) :: (nat_lit 200, o135 P) :: (nat_lit 201, boot_o_7 P) :: (nat_lit 203, o136 P) :: (nat_lit 204, boot_o_7 P) :: (nat_lit 206, o138 P) :: (nat_lit 207, o139 P) :: (nat_lit 208, boot_o_7 P) :: (nat_lit 210, o140 P) :: (nat_lit 211, boot_o_7 P) :: (nat_lit 213, o142 P) :: (nat_lit 214, o143 P) :: (nat_lit 215, boot_o_7 P) :: (nat_lit 217, o144 P) :: (nat_lit 218, boot_o_7 P) :: (nat_lit 220, o146 P) :: (nat_lit 221, o147 P) :: (nat_lit 222, boot_o_7 P) :: (nat_lit 224, o148 P) :: (nat_lit 225, boot_o_7 P) :: (nat_lit 227, o150 P) :: (nat_lit 228, o151 P) :: (nat_lit 229, boot_o_7 P) :: (nat_lit 231, o152 P) :: (nat_lit 232, boot_o_7 P) :: (nat_lit 234, o154 P) :: (nat_lit 235, o155 P) :: (nat_lit 236, boot_o_7 P) :: (nat_lit 238, o156 P) :: (nat_lit 239, boot_o_7 P) :: (nat_lit 241, o158 P) :: (nat_lit 242, o159 P) :: (nat_lit 243, boot_o_7 P) :: (nat_lit 245, o160 P) :: (nat_lit 246, boot_o_7 P) :: (nat_lit 248, o162 P) :: (nat_lit 249, o163 P) :: (nat_lit 250, boot_o_7 P) :: (nat_lit 252, o164 P) :: (nat_lit 253, boot_o_7 P) :: (nat_lit 255, o166 P) :: (nat_lit 256, o167 P) :: (nat_lit 257, o168 P) :: (nat_lit 258, o169 P) :: (nat_lit 259, o170 P) :: (nat_lit 260, o171 P) :: (nat_lit 261, o172 P) :: (nat_lit 272, boot_o_7 P) :: (nat_lit 274, o182 P) :: (nat_lit 275, boot_o_7 P) :: (nat_lit 277, o184 P) :: (nat_lit 278, o185 P) :: (nat_lit 286, boot_o_7 P) :: (nat_lit 288, o192 P) :: (nat_lit 289, boot_o_7 P) :: (nat_lit 291, o194 P) :: (nat_lit 292, o195 P) :: (nat_lit 293, o196 P) :: (nat_lit 294, o197 P) :: (nat_lit 295, o198 P) :: (nat_lit 296, o199 P) :: (nat_lit 297, o200 P) :: (nat_lit 307, o209 P) :: (nat_lit 308, boot_o_7 P) :: (nat_lit 311, o211 P) :: (nat_lit 312, o212 P) :: (nat_lit 313, o213 P) :: (nat_lit 314, o214 P) :: (nat_lit 315, o215 P) :: (nat_lit 316, o216 P) :: (nat_lit 317, o217 P) :: (nat_lit 327, boot_o_7 P) :: (nat_lit 329, o226 P) :: (nat_lit 330, boot_o_7 P) :: (nat_lit 332, o228 P) :: (nat_lit 333, o229 P) :: (nat_lit 334, o230 P) :: (nat_lit 335, o231 P) :: (nat_lit 336, o232 P) :: (nat_lit 337, o233 P) :: (nat_lit 338, o234 P) :: (nat_lit 341, o237 P) :: (nat_lit 342, boot_o_7 P) :: (nat_lit 344, o238 P) :: (nat_lit 345, boot_o_7 P) :: (nat_lit 347, o240 P) :: (nat_lit 348, o241 P) :: (nat_lit 356, boot_o_7 P) :: (nat_lit 359, o249 P) :: (nat_lit 360, o250 P) :: (nat_lit 361, o251 P) :: (nat_lit 362, o252 P) :: (nat_lit 363, o253 P) :: (nat_lit 364, o254 P) :: (nat_lit 365, o255 P) :: (nat_lit 368, boot_o_7 P) :: (nat_lit 370, o258 P) :: (nat_lit 371, boot_o_7 P) :: (nat_lit 373, o260 P) :: (nat_lit 374, o261 P) :: (nat_lit 375, boot_o_7 P) :: (nat_lit 377, o262 P) :: (nat_lit 378, boot_o_7 P) :: (nat_lit 380, o264 P) :: (nat_lit 381, o265 P) :: (nat_lit 382, boot_o_7 P) :: (nat_lit 384, o266 P) :: (nat_lit 385, boot_o_7 P) :: (nat_lit 387, o268 P) :: (nat_lit 388, o269 P) :: (nat_lit 389, boot_o_7 P) :: (nat_lit 391, o270 P) :: (nat_lit 392, boot_o_7 P) :: (nat_lit 394, o272 P) :: (nat_lit 395, o273 P) :: (nat_lit 396, o274 P) :: (nat_lit 397, boot_o_7 P) :: (nat_lit 399, o275 P) :: (nat_lit 400, boot_o_7 P) :: (nat_lit 402, o277 P) :: (nat_lit 403, o278 P) :: (nat_lit 404, o281 P) :: (nat_lit 405, boot_o_7 P) :: (nat_lit 407, o282 P) :: (nat_lit 408, boot_o_7 P) :: (nat_lit 410, o284 P) :: (nat_lit 411, o285 P) :: (nat_lit 412, boot_o_7 P) :: (nat_lit 414, o286 P) :: (nat_lit 415, boot_o_7 P) :: (nat_lit 417, o288 P) :: (nat_lit 418, o289 P) :: (nat_lit 419, boot_o_7 P) :: (nat_lit 421, o290 P) :: (nat_lit 422, boot_o_7 P) :: (nat_lit 424, o292 P) :: (nat_lit 425, o293 P) :: (nat_lit 426, boot_o_7 P) :: (nat_lit 429, o295 P) :: (nat_lit 430, o296 P) :: (nat_lit 431, boot_o_7 P) :: (nat_lit 434, o298 P) :: (nat_lit 435, o299 P) :: (nat_lit 436, boot_o_7 P) :: (nat_lit 439, o301 P) :: (nat_lit 440, o302 P) :: (nat_lit 441, boot_o_7 P) :: (nat_lit 443, o303 P) :: (nat_lit 444, boot_o_7 P) :: (nat_lit 446, o305 P) :: (nat_lit 447, o306 P) :: (nat_lit 448, boot_o_7 P) :: (nat_lit 450, o307 P) :: (nat_lit 451, boot_o_7 P) :: (nat_lit 453, o309 P) :: (nat_lit 454, o310 P) :: (nat_lit 455, boot_o_7 P) :: (nat_lit 458, o312 P) :: (nat_lit 459, o313 P) :: []
noncomputable def hKs : List Addr := nat_lit 2 :: nat_lit 3 :: nat_lit 15 :: nat_lit 17 :: nat_lit 18 :: nat_lit 20 :: nat_lit 21 :: nat_lit 22 :: nat_lit 29 :: nat_lit 30 :: nat_lit 32 :: nat_lit 33 :: nat_lit 35 :: nat_lit 36 :: nat_lit 37 :: nat_lit 38 :: nat_lit 39 :: nat_lit 40 :: nat_lit 43 :: nat_lit 50 :: nat_lit 51 :: nat_lit 52 :: nat_lit 55 :: nat_lit 62 :: nat_lit 63 :: nat_lit 64 :: nat_lit 67 :: nat_lit 74 :: nat_lit 75 :: nat_lit 76 :: nat_lit 79 :: nat_lit 86 :: nat_lit 87 :: nat_lit 88 :: nat_lit 91 :: nat_lit 93 :: nat_lit 94 :: nat_lit 96 :: nat_lit 97 :: nat_lit 98 :: nat_lit 100 :: nat_lit 101 :: nat_lit 103 :: nat_lit 104 :: nat_lit 105 :: nat_lit 107 :: nat_lit 108 :: nat_lit 110 :: nat_lit 111 :: nat_lit 120 :: nat_lit 121 :: nat_lit 123 :: nat_lit 124 :: nat_lit 126 :: nat_lit 127 :: nat_lit 128 :: nat_lit 130 :: nat_lit 131 :: nat_lit 133 :: nat_lit 134 :: nat_lit 135 :: nat_lit 137 :: nat_lit 138 :: nat_lit 140 :: nat_lit 141 :: nat_lit 142 :: nat_lit 144 :: nat_lit 145 :: nat_lit 147 :: nat_lit 148 :: nat_lit 149 :: nat_lit 151 :: nat_lit 152 :: nat_lit 154 :: nat_lit 155 :: nat_lit 156 :: nat_lit 158 :: nat_lit 159 :: nat_lit 161 :: nat_lit 162 :: nat_lit 163 :: nat_lit 165 :: nat_lit 166 :: nat_lit 168 :: nat_lit 169 :: nat_lit 177 :: nat_lit 178 :: nat_lit 179 :: nat_lit 180 :: nat_lit 182 :: nat_lit 183 :: nat_lit 185 :: nat_lit 186 :: nat_lit 187 :: nat_lit 189 :: nat_lit 190 :: nat_lit 192 :: nat_lit 193 :: nat_lit 194 :: nat_lit 196 :: nat_lit 197 :: nat_lit 199 :: nat_lit 200 :: nat_lit 201 :: nat_lit 203 :: nat_lit 204 :: nat_lit 206 :: nat_lit 207 :: nat_lit 208 :: nat_lit 210 :: nat_lit 211 :: nat_lit 213 :: nat_lit 214 :: nat_lit 215 :: nat_lit 217 :: nat_lit 218 :: nat_lit 220 :: nat_lit 221 :: nat_lit 222 :: nat_lit 224 :: nat_lit 225 :: nat_lit 227 :: nat_lit 228 :: nat_lit 229 :: nat_lit 231 :: nat_lit 232 :: nat_lit 234 :: nat_lit 235 :: nat_lit 236 :: nat_lit 238 :: nat_lit 239 :: nat_lit 241 :: nat_lit 242 :: nat_lit 243 :: nat_lit 245 :: nat_lit 246 :: nat_lit 248 :: nat_lit 249 :: nat_lit 250 :: nat_lit 252 :: nat_lit 253 :: nat_lit 255 :: nat_lit 256 :: nat_lit 257 :: nat_lit 258 :: nat_lit 259 :: nat_lit 260 :: nat_lit 261 :: nat_lit 272 :: nat_lit 274 :: nat_lit 275 :: nat_lit 277 :: nat_lit 278 :: nat_lit 286 :: nat_lit 288 :: nat_lit 289 :: nat_lit 291 :: nat_lit 292 :: nat_lit 293 :: nat_lit 294 :: nat_lit 295 :: nat_lit 296 :: nat_lit 297 :: nat_lit 307 :: nat_lit 308 :: nat_lit 311 :: nat_lit 312 :: nat_lit 313 :: nat_lit 314 :: nat_lit 315 :: nat_lit 316 :: nat_lit 317 :: nat_lit 327 :: nat_lit 329 :: nat_lit 330 :: nat_lit 332 :: nat_lit 333 :: nat_lit 334 :: nat_lit 335 :: nat_lit 336 :: nat_lit 337 :: nat_lit 338 :: nat_lit 341 :: nat_lit 342 :: nat_lit 344 :: nat_lit 345 :: nat_lit 347 :: nat_lit 348 :: nat_lit 356 :: nat_lit 359 :: nat_lit 360 :: nat_lit 361 :: nat_lit 362 :: nat_lit 363 :: nat_lit 364 :: nat_lit 365 :: nat_lit 368 :: nat_lit 370 :: nat_lit 371 :: nat_lit 373 :: nat_lit 374 :: nat_lit 375 :: nat_lit 377 :: nat_lit 378 :: nat_lit 380 :: nat_lit 381 :: nat_lit 382 :: nat_lit 384 :: nat_lit 385 :: nat_lit 387 :: nat_lit 388 :: nat_lit 389 :: nat_lit 391 :: nat_lit 392 :: nat_lit 394 :: nat_lit 395 :: nat_lit 396 :: nat_lit 397 :: nat_lit 399 :: nat_lit 400 :: nat_lit 402 :: nat_lit 403 :: nat_lit 404 :: nat_lit 405 :: nat_lit 407 :: nat_lit 408 :: nat_lit 410 :: nat_lit 411 :: nat_lit 412 :: nat_lit 414 :: nat_lit 415 :: nat_lit 417 :: nat_lit 418 :: nat_lit 419 :: nat_lit 421 :: nat_lit 422 :: nat_lit 424 :: nat_lit 425 :: nat_lit 426 :: nat_lit 429 :: nat_lit 430 :: nat_lit 431 :: nat_lit 434 :: nat_lit 435 :: nat_lit 436 :: nat_lit 439 :: nat_lit 440 :: nat_lit 441 :: nat_lit 443 :: nat_lit 444 :: nat_lit 446 :: nat_lit 447 :: nat_lit 448 :: nat_lit 450 :: nat_lit 451 :: nat_lit 453 :: nat_lit 454 :: nat_lit 455 :: nat_lit 458 :: nat_lit 459 :: []
noncomputable def hV : Program := { pw with main := { pw.main with body := [pI pB 0, pI pB 2, pI pB 3, pI pB 4, pI pB 5, pI pB 6, pI pB 8, pI pB 9, pI pB 10, pI pB 11, pI pB 13, pI pB 14, pI pB 15, pI pB 16, pI pB 17, pI pB 18, pI pB 19, pI pB 20, pI pB 21, pI pB 22, pI pB 23, pI pB 24, pI pB 25, pI pB 26, pI pB 27, pI pB 29, pI pB 30, pI pB 31, pI pB 32, pI pB 33, pI pB 34, pI pB 36, pI pB 37, pI pB 38, pI pB 39, pI pB 40, pI pB 41, pI pB 42, pI pB 43, pI pB 46, pI pB 47, pI pB 48, pI pB 49, pI pB 50, pI pB 51, pI pB 52, pI pB 53, pI pB 54, pI pB 55] } }
noncomputable def hL : List Str := [Str.ofString "PageError", Str.ofString "MAX_DIMEN", Str.ofString "MOST_SIZE", Str.ofString "PLAIN_SORT", Str.ofString "PROGRAM_SORT", Str.ofString "LARGER_SORT", Str.ofString "PIECES_SORT", Str.ofString "STOP_SKIP", Str.ofString "KERN_OP", Str.ofString "LEAD", Str.ofString "Font", Str.ofString "CHAR", Str.ofString "LIGATURE", Str.ofString "HBOX", Str.ofString "VBOX", Str.ofString "RULE", Str.ofString "KERN", Str.ofString "GLUE", Str.ofString "PENALTY", Str.ofString "FONT_KERN", Str.ofString "EXPLICIT", Str.ofString "ACCENT_KERN", Str.ofString "MU_KERN", Str.ofString "Char", Str.ofString "Ligature", Str.ofString "Kern", Str.ofString "run"]
noncomputable def hLv : List (Str × WData) := [(Str.ofString "MAX_DIMEN", (WData.int 1073741823)), (Str.ofString "MOST_SIZE", (WData.int 134217727)), (Str.ofString "PLAIN_SORT", (WData.int 0)), (Str.ofString "PROGRAM_SORT", (WData.int 1)), (Str.ofString "LARGER_SORT", (WData.int 2)), (Str.ofString "PIECES_SORT", (WData.int 3)), (Str.ofString "STOP_SKIP", (WData.int 128)), (Str.ofString "KERN_OP", (WData.int 128)), (Str.ofString "LEAD", (WData.int 255)), (Str.ofString "CHAR", (WData.int 0)), (Str.ofString "LIGATURE", (WData.int 1)), (Str.ofString "HBOX", (WData.int 2)), (Str.ofString "VBOX", (WData.int 3)), (Str.ofString "RULE", (WData.int 4)), (Str.ofString "KERN", (WData.int 5)), (Str.ofString "GLUE", (WData.int 6)), (Str.ofString "PENALTY", (WData.int 7)), (Str.ofString "FONT_KERN", (WData.int 0)), (Str.ofString "EXPLICIT", (WData.int 1)), (Str.ofString "ACCENT_KERN", (WData.int 2)), (Str.ofString "MU_KERN", (WData.int 3))]


theorem hPre (w : World) : (fun os => topGo treeTable pw w 11 (some (Value.ref 6)) 12 (⟨boot_heap w.params, Array.mk [], boot_drawn, boot_toks, os⟩ : Shared) (topStub pw)) = fun os => some ((⟨hHa w.params, (Array.mk []), (Drawn.mk 0 0 0 0), 187, os⟩ : Shared), (⟨denote treeTable (Code.body (behindTheImports pw) hEnv), (Code.body (behindTheImports pw) hEnv), (Pos.mk 0 0 0 0), [topFrame (Pos.mk 0 0 0 0)]⟩ : Thread)) := by
  rewrite [PySem.W.Fast.te15667345088766844465, PySem.W.Fast.te14364793385576792824, PySem.W.Fast.te11892475500146522536]
  kernel_rfl
theorem hBlock (w : World) : (fun os => segRun treeTable pw w 11 (some (Value.ref 6)) 1 1 (⟨hHa w.params, (Array.mk []), (Drawn.mk 0 0 0 0), 187, os⟩ : Shared) (blockOf (behindTheImports pw) hEnv (Code.body (behindTheImports pw) hEnv) (Pos.mk 0 0 0 0) [topFrame (Pos.mk 0 0 0 0)])) = fun os => some (Flow.next, ((⟨hT0 w.params, 15, (Life.mk [] [] [] 0 [] [] false (List.toArray []) [] 0 false false false 0 [2000, 10, 10] false 0 true [] [] 0 false), (Array.mk []), (Drawn.mk 0 0 0 0), 187, os⟩ : SharedT)).abs, ((Code.body (behindTheImports pw) hEnv) : Code), ((Pos.mk 0 0 0 0) : Pos)) := by
  rewrite [PySem.W.Fast.te14374325043358763698, PySem.W.Fast.te14364793385576792824]
  kernel_rfl
theorem hP1 (w : World) : (fun os => segRunT treeTable pw w 11 (some (Value.ref 6)) 1 259 (⟨hT0 (w).params, 15, (Life.mk [] [] [] 0 [] [] false (List.toArray []) [] 0 false false false 0 [2000, 10, 10] false 0 true [] [] 0 false), (Array.mk []), (Drawn.mk 0 0 0 0), 187, os⟩ : SharedT) (piecesOf hSt1 hEnv (Code.body (behindTheImports pw) hEnv) (Pos.mk 0 0 0 0) [topFrame (Pos.mk 0 0 0 0)])) = fun os => some (Flow.next, (⟨hT1 (w).params, 43, (Life.mk [] [] [] 0 [] [] false (List.toArray []) [] 0 false false false 0 [2000, 10, 10] false 0 true [] [] 0 false), (Array.mk []), (Drawn.mk 0 0 0 0), 224, os⟩ : SharedT), ((Code.body (behindTheImports pw) hEnv) : Code), ((Pos.mk 5 0 8 28) : Pos)) := by
  rewrite [PySem.W.Fast.te10110043849684766642, PySem.W.Fast.te14364793385576792824]
  kernel_rfl
theorem hP2 (w : World) : (fun os => segRunT treeTable pw w 11 (some (Value.ref 6)) 1 214 (⟨hT1 (w).params, 43, (Life.mk [] [] [] 0 [] [] false (List.toArray []) [] 0 false false false 0 [2000, 10, 10] false 0 true [] [] 0 false), (Array.mk []), (Drawn.mk 0 0 0 0), 224, os⟩ : SharedT) (piecesOf hSt2 hEnv (Code.body (behindTheImports pw) hEnv) (Pos.mk 5 0 8 28) [topFrame (Pos.mk 0 0 0 0)])) = fun os => some (Flow.next, (⟨hT2 (w).params, 55, (Life.mk [] [] [] 0 [] [] false (List.toArray []) [] 0 false false false 0 [2000, 10, 10] false 0 true [] [] 0 false), (Array.mk []), (Drawn.mk 0 0 0 0), 240, os⟩ : SharedT), ((Code.body (behindTheImports pw) hEnv) : Code), ((Pos.mk 9 0 10 8) : Pos)) := by
  rewrite [PySem.W.Fast.te10110043849684766642, PySem.W.Fast.te14364793385576792824]
  kernel_rfl
theorem hP3 (w : World) : (fun os => segRunT treeTable pw w 11 (some (Value.ref 6)) 1 214 (⟨hT2 (w).params, 55, (Life.mk [] [] [] 0 [] [] false (List.toArray []) [] 0 false false false 0 [2000, 10, 10] false 0 true [] [] 0 false), (Array.mk []), (Drawn.mk 0 0 0 0), 240, os⟩ : SharedT) (piecesOf hSt3 hEnv (Code.body (behindTheImports pw) hEnv) (Pos.mk 9 0 10 8) [topFrame (Pos.mk 0 0 0 0)])) = fun os => some (Flow.next, (⟨hT3 (w).params, 67, (Life.mk [] [] [] 0 [] [] false (List.toArray []) [] 0 false false false 0 [2000, 10, 10] false 0 true [] [] 0 false), (Array.mk []), (Drawn.mk 0 0 0 0), 256, os⟩ : SharedT), ((Code.body (behindTheImports pw) hEnv) : Code), ((Pos.mk 11 0 12 8) : Pos)) := by
  rewrite [PySem.W.Fast.te10110043849684766642, PySem.W.Fast.te14364793385576792824]
  kernel_rfl
theorem hP4 (w : World) : (fun os => segRunT treeTable pw w 11 (some (Value.ref 6)) 1 214 (⟨hT3 (w).params, 67, (Life.mk [] [] [] 0 [] [] false (List.toArray []) [] 0 false false false 0 [2000, 10, 10] false 0 true [] [] 0 false), (Array.mk []), (Drawn.mk 0 0 0 0), 256, os⟩ : SharedT) (piecesOf hSt4 hEnv (Code.body (behindTheImports pw) hEnv) (Pos.mk 11 0 12 8) [topFrame (Pos.mk 0 0 0 0)])) = fun os => some (Flow.next, (⟨hT4 (w).params, 79, (Life.mk [] [] [] 0 [] [] false (List.toArray []) [] 0 false false false 0 [2000, 10, 10] false 0 true [] [] 0 false), (Array.mk []), (Drawn.mk 0 0 0 0), 272, os⟩ : SharedT), ((Code.body (behindTheImports pw) hEnv) : Code), ((Pos.mk 13 0 14 8) : Pos)) := by
  rewrite [PySem.W.Fast.te10110043849684766642, PySem.W.Fast.te14364793385576792824]
  kernel_rfl
theorem hP5 (w : World) : (fun os => segRunT treeTable pw w 11 (some (Value.ref 6)) 1 390 (⟨hT4 (w).params, 79, (Life.mk [] [] [] 0 [] [] false (List.toArray []) [] 0 false false false 0 [2000, 10, 10] false 0 true [] [] 0 false), (Array.mk []), (Drawn.mk 0 0 0 0), 272, os⟩ : SharedT) (piecesOf hSt5 hEnv (Code.body (behindTheImports pw) hEnv) (Pos.mk 13 0 14 8) [topFrame (Pos.mk 0 0 0 0)])) = fun os => some (Flow.next, (⟨hT5 (w).params, 112, (Life.mk [] [] [] 0 [] [] false (List.toArray []) [] 0 false false false 0 [2000, 10, 10] false 0 true [] [] 0 false), (Array.mk []), (Drawn.mk 0 0 0 0), 333, os⟩ : SharedT), ((Code.body (behindTheImports pw) hEnv) : Code), ((Pos.mk 33 0 33 9) : Pos)) := by
  rewrite [PySem.W.Fast.te10110043849684766642, PySem.W.Fast.te14364793385576792824]
  kernel_rfl
theorem hP6false (w : World) : (fun os => segRunT treeTable pw (w.withFollow "special-get-raises" false) 11 (some (Value.ref 6)) 1 398 (⟨hT5 ((w.withFollow "special-get-raises" false)).params, 112, (Life.mk [] [] [] 0 [] [] false (List.toArray []) [] 0 false false false 0 [2000, 10, 10] false 0 true [] [] 0 false), (Array.mk []), (Drawn.mk 0 0 0 0), 333, os⟩ : SharedT) (piecesOf hSt6 hEnv (Code.body (behindTheImports pw) hEnv) (Pos.mk 33 0 33 9) [topFrame (Pos.mk 0 0 0 0)])) = fun os => some (Flow.next, (⟨hT6 ((w.withFollow "special-get-raises" false)).params, 163, (Life.mk [] [] [] 0 [] [] false (List.toArray []) [] 0 false false false 0 [2000, 10, 10] false 0 true [] [] 0 false), (Array.mk []), (Drawn.mk 0 0 0 0), 419, os⟩ : SharedT), ((Code.body (behindTheImports pw) hEnv) : Code), ((Pos.mk 69 0 87 54) : Pos)) := by
  rewrite [PySem.W.Fast.te10110043849684766642, PySem.W.Fast.te14364793385576792824]
  kernel_rfl
theorem hP6true (w : World) : (fun os => segRunT treeTable pw (w.withFollow "special-get-raises" true) 11 (some (Value.ref 6)) 1 398 (⟨hT5 ((w.withFollow "special-get-raises" true)).params, 112, (Life.mk [] [] [] 0 [] [] false (List.toArray []) [] 0 false false false 0 [2000, 10, 10] false 0 true [] [] 0 false), (Array.mk []), (Drawn.mk 0 0 0 0), 333, os⟩ : SharedT) (piecesOf hSt6 hEnv (Code.body (behindTheImports pw) hEnv) (Pos.mk 33 0 33 9) [topFrame (Pos.mk 0 0 0 0)])) = fun os => some (Flow.next, (⟨hT6 ((w.withFollow "special-get-raises" true)).params, 163, (Life.mk [] [] [] 0 [] [] false (List.toArray []) [] 0 false false false 0 [2000, 10, 10] false 0 true [] [] 0 false), (Array.mk []), (Drawn.mk 0 0 0 0), 419, os⟩ : SharedT), ((Code.body (behindTheImports pw) hEnv) : Code), ((Pos.mk 69 0 87 54) : Pos)) := by
  rewrite [PySem.W.Fast.te10110043849684766642, PySem.W.Fast.te14364793385576792824]
  kernel_rfl
theorem hP6 (w : World) : (fun os => segRunT treeTable pw w 11 (some (Value.ref 6)) 1 398 (⟨hT5 (w).params, 112, (Life.mk [] [] [] 0 [] [] false (List.toArray []) [] 0 false false false 0 [2000, 10, 10] false 0 true [] [] 0 false), (Array.mk []), (Drawn.mk 0 0 0 0), 333, os⟩ : SharedT) (piecesOf hSt6 hEnv (Code.body (behindTheImports pw) hEnv) (Pos.mk 33 0 33 9) [topFrame (Pos.mk 0 0 0 0)])) = fun os => some (Flow.next, (⟨hT6 (w).params, 163, (Life.mk [] [] [] 0 [] [] false (List.toArray []) [] 0 false false false 0 [2000, 10, 10] false 0 true [] [] 0 false), (Array.mk []), (Drawn.mk 0 0 0 0), 419, os⟩ : SharedT), ((Code.body (behindTheImports pw) hEnv) : Code), ((Pos.mk 69 0 87 54) : Pos)) := @byRow2 "special-get-raises" (fun w => (fun os => segRunT treeTable pw w 11 (some (Value.ref 6)) 1 398 (⟨hT5 (w).params, 112, (Life.mk [] [] [] 0 [] [] false (List.toArray []) [] 0 false false false 0 [2000, 10, 10] false 0 true [] [] 0 false), (Array.mk []), (Drawn.mk 0 0 0 0), 333, os⟩ : SharedT) (piecesOf hSt6 hEnv (Code.body (behindTheImports pw) hEnv) (Pos.mk 33 0 33 9) [topFrame (Pos.mk 0 0 0 0)])) = fun os => some (Flow.next, (⟨hT6 (w).params, 163, (Life.mk [] [] [] 0 [] [] false (List.toArray []) [] 0 false false false 0 [2000, 10, 10] false 0 true [] [] 0 false), (Array.mk []), (Drawn.mk 0 0 0 0), 419, os⟩ : SharedT), ((Code.body (behindTheImports pw) hEnv) : Code), ((Pos.mk 69 0 87 54) : Pos))) hP6false hP6true w
theorem hP7 (w : World) : (fun os => segRunT treeTable pw w 11 (some (Value.ref 6)) 1 34 (⟨hT6 (w).params, 163, (Life.mk [] [] [] 0 [] [] false (List.toArray []) [] 0 false false false 0 [2000, 10, 10] false 0 true [] [] 0 false), (Array.mk []), (Drawn.mk 0 0 0 0), 419, os⟩ : SharedT) (piecesOf hSt7 hEnv (Code.body (behindTheImports pw) hEnv) (Pos.mk 69 0 87 54) [topFrame (Pos.mk 0 0 0 0)])) = fun os => some (Flow.next, (⟨hT7 (w).params, 170, (Life.mk [] [] [] 0 [] [] false (List.toArray []) [] 0 false false false 0 [2000, 10, 10] false 0 true [] [] 0 false), (Array.mk []), (Drawn.mk 0 0 0 0), 430, os⟩ : SharedT), ((Code.body (behindTheImports pw) hEnv) : Code), ((Pos.mk 88 0 92 50) : Pos)) := by
  rewrite [PySem.W.Fast.te10110043849684766642, PySem.W.Fast.te14364793385576792824]
  kernel_rfl
theorem hP8 (w : World) : (fun os => segRunT treeTable pw w 11 (some (Value.ref 6)) 1 575 (⟨hT7 (w).params, 170, (Life.mk [] [] [] 0 [] [] false (List.toArray []) [] 0 false false false 0 [2000, 10, 10] false 0 true [] [] 0 false), (Array.mk []), (Drawn.mk 0 0 0 0), 430, os⟩ : SharedT) (piecesOf hSt8 hEnv (Code.body (behindTheImports pw) hEnv) (Pos.mk 88 0 92 50) [topFrame (Pos.mk 0 0 0 0)])) = fun os => some (Flow.next, (⟨hT8 (w).params, 264, (Life.mk [] [] [] 0 [] [] false (List.toArray []) [] 0 false false false 0 [2000, 10, 10] false 0 true [] [] 0 false), (Array.mk []), (Drawn.mk 0 0 0 0), 562, os⟩ : SharedT), ((Code.body (behindTheImports pw) hEnv) : Code), ((Pos.mk 93 0 152 16) : Pos)) := by
  rewrite [PySem.W.Fast.te10110043849684766642, PySem.W.Fast.te14364793385576792824]
  kernel_rfl
theorem hP9false (w : World) : (fun os => segRunT treeTable pw (w.withFollow "special-get-raises" false) 11 (some (Value.ref 6)) 1 313 (⟨hT8 ((w.withFollow "special-get-raises" false)).params, 264, (Life.mk [] [] [] 0 [] [] false (List.toArray []) [] 0 false false false 0 [2000, 10, 10] false 0 true [] [] 0 false), (Array.mk []), (Drawn.mk 0 0 0 0), 562, os⟩ : SharedT) (piecesOf hSt9 hEnv (Code.body (behindTheImports pw) hEnv) (Pos.mk 93 0 152 16) [topFrame (Pos.mk 0 0 0 0)])) = fun os => some (Flow.next, (⟨hT9 ((w.withFollow "special-get-raises" false)).params, 279, (Life.mk [] [] [] 0 [] [] false (List.toArray []) [] 0 false false false 0 [2000, 10, 10] false 0 true [] [] 0 false), (Array.mk []), (Drawn.mk 0 0 0 0), 595, os⟩ : SharedT), ((Code.body (behindTheImports pw) hEnv) : Code), ((Pos.mk 156 0 159 15) : Pos)) := by
  rewrite [PySem.W.Fast.te10110043849684766642, PySem.W.Fast.te14364793385576792824]
  kernel_rfl
theorem hP9true (w : World) : (fun os => segRunT treeTable pw (w.withFollow "special-get-raises" true) 11 (some (Value.ref 6)) 1 313 (⟨hT8 ((w.withFollow "special-get-raises" true)).params, 264, (Life.mk [] [] [] 0 [] [] false (List.toArray []) [] 0 false false false 0 [2000, 10, 10] false 0 true [] [] 0 false), (Array.mk []), (Drawn.mk 0 0 0 0), 562, os⟩ : SharedT) (piecesOf hSt9 hEnv (Code.body (behindTheImports pw) hEnv) (Pos.mk 93 0 152 16) [topFrame (Pos.mk 0 0 0 0)])) = fun os => some (Flow.next, (⟨hT9 ((w.withFollow "special-get-raises" true)).params, 279, (Life.mk [] [] [] 0 [] [] false (List.toArray []) [] 0 false false false 0 [2000, 10, 10] false 0 true [] [] 0 false), (Array.mk []), (Drawn.mk 0 0 0 0), 595, os⟩ : SharedT), ((Code.body (behindTheImports pw) hEnv) : Code), ((Pos.mk 156 0 159 15) : Pos)) := by
  rewrite [PySem.W.Fast.te10110043849684766642, PySem.W.Fast.te14364793385576792824]
  kernel_rfl
theorem hP9 (w : World) : (fun os => segRunT treeTable pw w 11 (some (Value.ref 6)) 1 313 (⟨hT8 (w).params, 264, (Life.mk [] [] [] 0 [] [] false (List.toArray []) [] 0 false false false 0 [2000, 10, 10] false 0 true [] [] 0 false), (Array.mk []), (Drawn.mk 0 0 0 0), 562, os⟩ : SharedT) (piecesOf hSt9 hEnv (Code.body (behindTheImports pw) hEnv) (Pos.mk 93 0 152 16) [topFrame (Pos.mk 0 0 0 0)])) = fun os => some (Flow.next, (⟨hT9 (w).params, 279, (Life.mk [] [] [] 0 [] [] false (List.toArray []) [] 0 false false false 0 [2000, 10, 10] false 0 true [] [] 0 false), (Array.mk []), (Drawn.mk 0 0 0 0), 595, os⟩ : SharedT), ((Code.body (behindTheImports pw) hEnv) : Code), ((Pos.mk 156 0 159 15) : Pos)) := @byRow2 "special-get-raises" (fun w => (fun os => segRunT treeTable pw w 11 (some (Value.ref 6)) 1 313 (⟨hT8 (w).params, 264, (Life.mk [] [] [] 0 [] [] false (List.toArray []) [] 0 false false false 0 [2000, 10, 10] false 0 true [] [] 0 false), (Array.mk []), (Drawn.mk 0 0 0 0), 562, os⟩ : SharedT) (piecesOf hSt9 hEnv (Code.body (behindTheImports pw) hEnv) (Pos.mk 93 0 152 16) [topFrame (Pos.mk 0 0 0 0)])) = fun os => some (Flow.next, (⟨hT9 (w).params, 279, (Life.mk [] [] [] 0 [] [] false (List.toArray []) [] 0 false false false 0 [2000, 10, 10] false 0 true [] [] 0 false), (Array.mk []), (Drawn.mk 0 0 0 0), 595, os⟩ : SharedT), ((Code.body (behindTheImports pw) hEnv) : Code), ((Pos.mk 156 0 159 15) : Pos))) hP9false hP9true w
theorem hP10 (w : World) : (fun os => segRunT treeTable pw w 11 (some (Value.ref 6)) 1 238 (⟨hT9 (w).params, 279, (Life.mk [] [] [] 0 [] [] false (List.toArray []) [] 0 false false false 0 [2000, 10, 10] false 0 true [] [] 0 false), (Array.mk []), (Drawn.mk 0 0 0 0), 595, os⟩ : SharedT) (piecesOf hSt10 hEnv (Code.body (behindTheImports pw) hEnv) (Pos.mk 156 0 159 15) [topFrame (Pos.mk 0 0 0 0)])) = fun os => some (Flow.next, (⟨hT10 (w).params, 300, (Life.mk [] [] [] 0 [] [] false (List.toArray []) [] 0 false false false 0 [2000, 10, 10] false 0 true [] [] 0 false), (Array.mk []), (Drawn.mk 0 0 0 0), 627, os⟩ : SharedT), ((Code.body (behindTheImports pw) hEnv) : Code), ((Pos.mk 160 0 165 36) : Pos)) := by
  rewrite [PySem.W.Fast.te10110043849684766642, PySem.W.Fast.te14364793385576792824]
  kernel_rfl
theorem hP11 (w : World) : (fun os => segRunT treeTable pw w 11 (some (Value.ref 6)) 1 237 (⟨hT10 (w).params, 300, (Life.mk [] [] [] 0 [] [] false (List.toArray []) [] 0 false false false 0 [2000, 10, 10] false 0 true [] [] 0 false), (Array.mk []), (Drawn.mk 0 0 0 0), 627, os⟩ : SharedT) (piecesOf hSt11 hEnv (Code.body (behindTheImports pw) hEnv) (Pos.mk 160 0 165 36) [topFrame (Pos.mk 0 0 0 0)])) = fun os => some (Flow.next, (⟨hT11 (w).params, 320, (Life.mk [] [] [] 0 [] [] false (List.toArray []) [] 0 false false false 0 [2000, 10, 10] false 0 true [] [] 0 false), (Array.mk []), (Drawn.mk 0 0 0 0), 659, os⟩ : SharedT), ((Code.body (behindTheImports pw) hEnv) : Code), ((Pos.mk 166 0 174 26) : Pos)) := by
  rewrite [PySem.W.Fast.te10110043849684766642, PySem.W.Fast.te14364793385576792824]
  kernel_rfl
theorem hP12 (w : World) : (fun os => segRunT treeTable pw w 11 (some (Value.ref 6)) 1 312 (⟨hT11 (w).params, 320, (Life.mk [] [] [] 0 [] [] false (List.toArray []) [] 0 false false false 0 [2000, 10, 10] false 0 true [] [] 0 false), (Array.mk []), (Drawn.mk 0 0 0 0), 659, os⟩ : SharedT) (piecesOf hSt12 hEnv (Code.body (behindTheImports pw) hEnv) (Pos.mk 166 0 174 26) [topFrame (Pos.mk 0 0 0 0)])) = fun os => some (Flow.next, (⟨hT12 (w).params, 349, (Life.mk [] [] [] 0 [] [] false (List.toArray []) [] 0 false false false 0 [2000, 10, 10] false 0 true [] [] 0 false), (Array.mk []), (Drawn.mk 0 0 0 0), 720, os⟩ : SharedT), ((Code.body (behindTheImports pw) hEnv) : Code), ((Pos.mk 186 0 202 15) : Pos)) := by
  rewrite [PySem.W.Fast.te10110043849684766642, PySem.W.Fast.te14364793385576792824]
  kernel_rfl
theorem hP13 (w : World) : (fun os => segRunT treeTable pw w 11 (some (Value.ref 6)) 1 399 (⟨hT12 (w).params, 349, (Life.mk [] [] [] 0 [] [] false (List.toArray []) [] 0 false false false 0 [2000, 10, 10] false 0 true [] [] 0 false), (Array.mk []), (Drawn.mk 0 0 0 0), 720, os⟩ : SharedT) (piecesOf hSt13 hEnv (Code.body (behindTheImports pw) hEnv) (Pos.mk 186 0 202 15) [topFrame (Pos.mk 0 0 0 0)])) = fun os => some (Flow.next, (⟨hT13 (w).params, 404, (Life.mk [] [] [] 0 [] [] false (List.toArray []) [] 0 false false false 0 [2000, 10, 10] false 0 true [] [] 0 false), (Array.mk []), (Drawn.mk 0 0 0 0), 816, os⟩ : SharedT), ((Code.body (behindTheImports pw) hEnv) : Code), ((Pos.mk 269 0 284 16) : Pos)) := by
  rewrite [PySem.W.Fast.te10110043849684766642, PySem.W.Fast.te14364793385576792824]
  kernel_rfl
theorem hP14 (w : World) : (fun os => segRunT treeTable pw w 11 (some (Value.ref 6)) 1 285 (⟨hT13 (w).params, 404, (Life.mk [] [] [] 0 [] [] false (List.toArray []) [] 0 false false false 0 [2000, 10, 10] false 0 true [] [] 0 false), (Array.mk []), (Drawn.mk 0 0 0 0), 816, os⟩ : SharedT) (piecesOf hSt14 hEnv (Code.body (behindTheImports pw) hEnv) (Pos.mk 269 0 284 16) [topFrame (Pos.mk 0 0 0 0)])) = fun os => some (Flow.next, (⟨hT14 (w).params, 460, (Life.mk [] [] [] 0 [] [] false (List.toArray []) [] 0 false false false 0 [2000, 10, 10] false 0 true [] [] 0 false), (Array.mk []), (Drawn.mk 0 0 0 0), 894, os⟩ : SharedT), ((Code.body (behindTheImports pw) hEnv) : Code), ((Pos.mk 359 0 373 15) : Pos)) := by
  rewrite [PySem.W.Fast.te10110043849684766642, PySem.W.Fast.te14364793385576792824]
  kernel_rfl
theorem hFin (w : World) : (fun os => topRun treeTable pw w 11 (some (Value.ref 6)) 2 ((⟨hT14 w.params, 460, (Life.mk [] [] [] 0 [] [] false (List.toArray []) [] 0 false false false 0 [2000, 10, 10] false 0 true [] [] 0 false), (Array.mk []), (Drawn.mk 0 0 0 0), 894, os⟩ : SharedT)).abs ⟨doneF Flow.next, (Code.body (behindTheImports pw) hEnv), (Pos.mk 359 0 373 15), [topFrame (Pos.mk 0 0 0 0)]⟩) = fun os => some (hSf w os) := by
  rewrite [PySem.W.Fast.te14082659384304107361, PySem.W.Fast.te14364793385576792824]
  kernel_rfl
theorem hRun1 (w : World) (os : OsState) : topRun treeTable pw w 11 (some (Value.ref 6)) (259 + (214 + (214 + (214 + (390 + (398 + (34 + (575 + (313 + (238 + (237 + (312 + (399 + (285 + 2)))))))))))))) ((⟨hT0 w.params, 15, (Life.mk [] [] [] 0 [] [] false (List.toArray []) [] 0 false false false 0 [2000, 10, 10] false 0 true [] [] 0 false), (Array.mk []), (Drawn.mk 0 0 0 0), 187, os⟩ : SharedT)).abs (restOf (hSt1 ++ (hSt2 ++ (hSt3 ++ (hSt4 ++ (hSt5 ++ (hSt6 ++ (hSt7 ++ (hSt8 ++ (hSt9 ++ (hSt10 ++ (hSt11 ++ (hSt12 ++ (hSt13 ++ (hSt14 ++ [])))))))))))))) hEnv (Code.body (behindTheImports pw) hEnv) (Pos.mk 0 0 0 0) [topFrame (Pos.mk 0 0 0 0)]) = some (hSf w os) :=
  (@piece_app treeTable pw w 11 (some (Value.ref 6)) hEnv (Pos.mk 0 0 0 0) 259 (214 + (214 + (214 + (390 + (398 + (34 + (575 + (313 + (238 + (237 + (312 + (399 + (285 + 2))))))))))))) ((⟨hT0 w.params, 15, (Life.mk [] [] [] 0 [] [] false (List.toArray []) [] 0 false false false 0 [2000, 10, 10] false 0 true [] [] 0 false), (Array.mk []), (Drawn.mk 0 0 0 0), 187, os⟩ : SharedT)).abs ((⟨hT1 w.params, 43, (Life.mk [] [] [] 0 [] [] false (List.toArray []) [] 0 false false false 0 [2000, 10, 10] false 0 true [] [] 0 false), (Array.mk []), (Drawn.mk 0 0 0 0), 224, os⟩ : SharedT)).abs (hSf w os) hSt1 (hSt2 ++ (hSt3 ++ (hSt4 ++ (hSt5 ++ (hSt6 ++ (hSt7 ++ (hSt8 ++ (hSt9 ++ (hSt10 ++ (hSt11 ++ (hSt12 ++ (hSt13 ++ (hSt14 ++ []))))))))))))) (Code.body (behindTheImports pw) hEnv) (Pos.mk 0 0 0 0) (Pos.mk 5 0 8 28) (segRun_of (congrFun (hP1 w) os))
  (@piece_app treeTable pw w 11 (some (Value.ref 6)) hEnv (Pos.mk 0 0 0 0) 214 (214 + (214 + (390 + (398 + (34 + (575 + (313 + (238 + (237 + (312 + (399 + (285 + 2)))))))))))) ((⟨hT1 w.params, 43, (Life.mk [] [] [] 0 [] [] false (List.toArray []) [] 0 false false false 0 [2000, 10, 10] false 0 true [] [] 0 false), (Array.mk []), (Drawn.mk 0 0 0 0), 224, os⟩ : SharedT)).abs ((⟨hT2 w.params, 55, (Life.mk [] [] [] 0 [] [] false (List.toArray []) [] 0 false false false 0 [2000, 10, 10] false 0 true [] [] 0 false), (Array.mk []), (Drawn.mk 0 0 0 0), 240, os⟩ : SharedT)).abs (hSf w os) hSt2 (hSt3 ++ (hSt4 ++ (hSt5 ++ (hSt6 ++ (hSt7 ++ (hSt8 ++ (hSt9 ++ (hSt10 ++ (hSt11 ++ (hSt12 ++ (hSt13 ++ (hSt14 ++ [])))))))))))) (Code.body (behindTheImports pw) hEnv) (Pos.mk 5 0 8 28) (Pos.mk 9 0 10 8) (segRun_of (congrFun (hP2 w) os))
  (@piece_app treeTable pw w 11 (some (Value.ref 6)) hEnv (Pos.mk 0 0 0 0) 214 (214 + (390 + (398 + (34 + (575 + (313 + (238 + (237 + (312 + (399 + (285 + 2))))))))))) ((⟨hT2 w.params, 55, (Life.mk [] [] [] 0 [] [] false (List.toArray []) [] 0 false false false 0 [2000, 10, 10] false 0 true [] [] 0 false), (Array.mk []), (Drawn.mk 0 0 0 0), 240, os⟩ : SharedT)).abs ((⟨hT3 w.params, 67, (Life.mk [] [] [] 0 [] [] false (List.toArray []) [] 0 false false false 0 [2000, 10, 10] false 0 true [] [] 0 false), (Array.mk []), (Drawn.mk 0 0 0 0), 256, os⟩ : SharedT)).abs (hSf w os) hSt3 (hSt4 ++ (hSt5 ++ (hSt6 ++ (hSt7 ++ (hSt8 ++ (hSt9 ++ (hSt10 ++ (hSt11 ++ (hSt12 ++ (hSt13 ++ (hSt14 ++ []))))))))))) (Code.body (behindTheImports pw) hEnv) (Pos.mk 9 0 10 8) (Pos.mk 11 0 12 8) (segRun_of (congrFun (hP3 w) os))
  (@piece_app treeTable pw w 11 (some (Value.ref 6)) hEnv (Pos.mk 0 0 0 0) 214 (390 + (398 + (34 + (575 + (313 + (238 + (237 + (312 + (399 + (285 + 2)))))))))) ((⟨hT3 w.params, 67, (Life.mk [] [] [] 0 [] [] false (List.toArray []) [] 0 false false false 0 [2000, 10, 10] false 0 true [] [] 0 false), (Array.mk []), (Drawn.mk 0 0 0 0), 256, os⟩ : SharedT)).abs ((⟨hT4 w.params, 79, (Life.mk [] [] [] 0 [] [] false (List.toArray []) [] 0 false false false 0 [2000, 10, 10] false 0 true [] [] 0 false), (Array.mk []), (Drawn.mk 0 0 0 0), 272, os⟩ : SharedT)).abs (hSf w os) hSt4 (hSt5 ++ (hSt6 ++ (hSt7 ++ (hSt8 ++ (hSt9 ++ (hSt10 ++ (hSt11 ++ (hSt12 ++ (hSt13 ++ (hSt14 ++ [])))))))))) (Code.body (behindTheImports pw) hEnv) (Pos.mk 11 0 12 8) (Pos.mk 13 0 14 8) (segRun_of (congrFun (hP4 w) os))
  (@piece_app treeTable pw w 11 (some (Value.ref 6)) hEnv (Pos.mk 0 0 0 0) 390 (398 + (34 + (575 + (313 + (238 + (237 + (312 + (399 + (285 + 2))))))))) ((⟨hT4 w.params, 79, (Life.mk [] [] [] 0 [] [] false (List.toArray []) [] 0 false false false 0 [2000, 10, 10] false 0 true [] [] 0 false), (Array.mk []), (Drawn.mk 0 0 0 0), 272, os⟩ : SharedT)).abs ((⟨hT5 w.params, 112, (Life.mk [] [] [] 0 [] [] false (List.toArray []) [] 0 false false false 0 [2000, 10, 10] false 0 true [] [] 0 false), (Array.mk []), (Drawn.mk 0 0 0 0), 333, os⟩ : SharedT)).abs (hSf w os) hSt5 (hSt6 ++ (hSt7 ++ (hSt8 ++ (hSt9 ++ (hSt10 ++ (hSt11 ++ (hSt12 ++ (hSt13 ++ (hSt14 ++ []))))))))) (Code.body (behindTheImports pw) hEnv) (Pos.mk 13 0 14 8) (Pos.mk 33 0 33 9) (segRun_of (congrFun (hP5 w) os))
  (@piece_app treeTable pw w 11 (some (Value.ref 6)) hEnv (Pos.mk 0 0 0 0) 398 (34 + (575 + (313 + (238 + (237 + (312 + (399 + (285 + 2)))))))) ((⟨hT5 w.params, 112, (Life.mk [] [] [] 0 [] [] false (List.toArray []) [] 0 false false false 0 [2000, 10, 10] false 0 true [] [] 0 false), (Array.mk []), (Drawn.mk 0 0 0 0), 333, os⟩ : SharedT)).abs ((⟨hT6 w.params, 163, (Life.mk [] [] [] 0 [] [] false (List.toArray []) [] 0 false false false 0 [2000, 10, 10] false 0 true [] [] 0 false), (Array.mk []), (Drawn.mk 0 0 0 0), 419, os⟩ : SharedT)).abs (hSf w os) hSt6 (hSt7 ++ (hSt8 ++ (hSt9 ++ (hSt10 ++ (hSt11 ++ (hSt12 ++ (hSt13 ++ (hSt14 ++ [])))))))) (Code.body (behindTheImports pw) hEnv) (Pos.mk 33 0 33 9) (Pos.mk 69 0 87 54) (segRun_of (congrFun (hP6 w) os))
  (@piece_app treeTable pw w 11 (some (Value.ref 6)) hEnv (Pos.mk 0 0 0 0) 34 (575 + (313 + (238 + (237 + (312 + (399 + (285 + 2))))))) ((⟨hT6 w.params, 163, (Life.mk [] [] [] 0 [] [] false (List.toArray []) [] 0 false false false 0 [2000, 10, 10] false 0 true [] [] 0 false), (Array.mk []), (Drawn.mk 0 0 0 0), 419, os⟩ : SharedT)).abs ((⟨hT7 w.params, 170, (Life.mk [] [] [] 0 [] [] false (List.toArray []) [] 0 false false false 0 [2000, 10, 10] false 0 true [] [] 0 false), (Array.mk []), (Drawn.mk 0 0 0 0), 430, os⟩ : SharedT)).abs (hSf w os) hSt7 (hSt8 ++ (hSt9 ++ (hSt10 ++ (hSt11 ++ (hSt12 ++ (hSt13 ++ (hSt14 ++ []))))))) (Code.body (behindTheImports pw) hEnv) (Pos.mk 69 0 87 54) (Pos.mk 88 0 92 50) (segRun_of (congrFun (hP7 w) os))
  (@piece_app treeTable pw w 11 (some (Value.ref 6)) hEnv (Pos.mk 0 0 0 0) 575 (313 + (238 + (237 + (312 + (399 + (285 + 2)))))) ((⟨hT7 w.params, 170, (Life.mk [] [] [] 0 [] [] false (List.toArray []) [] 0 false false false 0 [2000, 10, 10] false 0 true [] [] 0 false), (Array.mk []), (Drawn.mk 0 0 0 0), 430, os⟩ : SharedT)).abs ((⟨hT8 w.params, 264, (Life.mk [] [] [] 0 [] [] false (List.toArray []) [] 0 false false false 0 [2000, 10, 10] false 0 true [] [] 0 false), (Array.mk []), (Drawn.mk 0 0 0 0), 562, os⟩ : SharedT)).abs (hSf w os) hSt8 (hSt9 ++ (hSt10 ++ (hSt11 ++ (hSt12 ++ (hSt13 ++ (hSt14 ++ [])))))) (Code.body (behindTheImports pw) hEnv) (Pos.mk 88 0 92 50) (Pos.mk 93 0 152 16) (segRun_of (congrFun (hP8 w) os))
  (@piece_app treeTable pw w 11 (some (Value.ref 6)) hEnv (Pos.mk 0 0 0 0) 313 (238 + (237 + (312 + (399 + (285 + 2))))) ((⟨hT8 w.params, 264, (Life.mk [] [] [] 0 [] [] false (List.toArray []) [] 0 false false false 0 [2000, 10, 10] false 0 true [] [] 0 false), (Array.mk []), (Drawn.mk 0 0 0 0), 562, os⟩ : SharedT)).abs ((⟨hT9 w.params, 279, (Life.mk [] [] [] 0 [] [] false (List.toArray []) [] 0 false false false 0 [2000, 10, 10] false 0 true [] [] 0 false), (Array.mk []), (Drawn.mk 0 0 0 0), 595, os⟩ : SharedT)).abs (hSf w os) hSt9 (hSt10 ++ (hSt11 ++ (hSt12 ++ (hSt13 ++ (hSt14 ++ []))))) (Code.body (behindTheImports pw) hEnv) (Pos.mk 93 0 152 16) (Pos.mk 156 0 159 15) (segRun_of (congrFun (hP9 w) os))
  (@piece_app treeTable pw w 11 (some (Value.ref 6)) hEnv (Pos.mk 0 0 0 0) 238 (237 + (312 + (399 + (285 + 2)))) ((⟨hT9 w.params, 279, (Life.mk [] [] [] 0 [] [] false (List.toArray []) [] 0 false false false 0 [2000, 10, 10] false 0 true [] [] 0 false), (Array.mk []), (Drawn.mk 0 0 0 0), 595, os⟩ : SharedT)).abs ((⟨hT10 w.params, 300, (Life.mk [] [] [] 0 [] [] false (List.toArray []) [] 0 false false false 0 [2000, 10, 10] false 0 true [] [] 0 false), (Array.mk []), (Drawn.mk 0 0 0 0), 627, os⟩ : SharedT)).abs (hSf w os) hSt10 (hSt11 ++ (hSt12 ++ (hSt13 ++ (hSt14 ++ [])))) (Code.body (behindTheImports pw) hEnv) (Pos.mk 156 0 159 15) (Pos.mk 160 0 165 36) (segRun_of (congrFun (hP10 w) os))
  (@piece_app treeTable pw w 11 (some (Value.ref 6)) hEnv (Pos.mk 0 0 0 0) 237 (312 + (399 + (285 + 2))) ((⟨hT10 w.params, 300, (Life.mk [] [] [] 0 [] [] false (List.toArray []) [] 0 false false false 0 [2000, 10, 10] false 0 true [] [] 0 false), (Array.mk []), (Drawn.mk 0 0 0 0), 627, os⟩ : SharedT)).abs ((⟨hT11 w.params, 320, (Life.mk [] [] [] 0 [] [] false (List.toArray []) [] 0 false false false 0 [2000, 10, 10] false 0 true [] [] 0 false), (Array.mk []), (Drawn.mk 0 0 0 0), 659, os⟩ : SharedT)).abs (hSf w os) hSt11 (hSt12 ++ (hSt13 ++ (hSt14 ++ []))) (Code.body (behindTheImports pw) hEnv) (Pos.mk 160 0 165 36) (Pos.mk 166 0 174 26) (segRun_of (congrFun (hP11 w) os))
  (@piece_app treeTable pw w 11 (some (Value.ref 6)) hEnv (Pos.mk 0 0 0 0) 312 (399 + (285 + 2)) ((⟨hT11 w.params, 320, (Life.mk [] [] [] 0 [] [] false (List.toArray []) [] 0 false false false 0 [2000, 10, 10] false 0 true [] [] 0 false), (Array.mk []), (Drawn.mk 0 0 0 0), 659, os⟩ : SharedT)).abs ((⟨hT12 w.params, 349, (Life.mk [] [] [] 0 [] [] false (List.toArray []) [] 0 false false false 0 [2000, 10, 10] false 0 true [] [] 0 false), (Array.mk []), (Drawn.mk 0 0 0 0), 720, os⟩ : SharedT)).abs (hSf w os) hSt12 (hSt13 ++ (hSt14 ++ [])) (Code.body (behindTheImports pw) hEnv) (Pos.mk 166 0 174 26) (Pos.mk 186 0 202 15) (segRun_of (congrFun (hP12 w) os))
  (@piece_app treeTable pw w 11 (some (Value.ref 6)) hEnv (Pos.mk 0 0 0 0) 399 (285 + 2) ((⟨hT12 w.params, 349, (Life.mk [] [] [] 0 [] [] false (List.toArray []) [] 0 false false false 0 [2000, 10, 10] false 0 true [] [] 0 false), (Array.mk []), (Drawn.mk 0 0 0 0), 720, os⟩ : SharedT)).abs ((⟨hT13 w.params, 404, (Life.mk [] [] [] 0 [] [] false (List.toArray []) [] 0 false false false 0 [2000, 10, 10] false 0 true [] [] 0 false), (Array.mk []), (Drawn.mk 0 0 0 0), 816, os⟩ : SharedT)).abs (hSf w os) hSt13 (hSt14 ++ []) (Code.body (behindTheImports pw) hEnv) (Pos.mk 186 0 202 15) (Pos.mk 269 0 284 16) (segRun_of (congrFun (hP13 w) os))
  (@piece_app treeTable pw w 11 (some (Value.ref 6)) hEnv (Pos.mk 0 0 0 0) 285 2 ((⟨hT13 w.params, 404, (Life.mk [] [] [] 0 [] [] false (List.toArray []) [] 0 false false false 0 [2000, 10, 10] false 0 true [] [] 0 false), (Array.mk []), (Drawn.mk 0 0 0 0), 816, os⟩ : SharedT)).abs ((⟨hT14 w.params, 460, (Life.mk [] [] [] 0 [] [] false (List.toArray []) [] 0 false false false 0 [2000, 10, 10] false 0 true [] [] 0 false), (Array.mk []), (Drawn.mk 0 0 0 0), 894, os⟩ : SharedT)).abs (hSf w os) hSt14 [] (Code.body (behindTheImports pw) hEnv) (Pos.mk 269 0 284 16) (Pos.mk 359 0 373 15) (segRun_of (congrFun (hP14 w) os))
  (congrFun (hFin w) os)))))))))))))))
theorem hRun2 (w : World) (os : OsState) : topRun treeTable pw w 11 (some (Value.ref 6)) (259 + (214 + (214 + (214 + (390 + (398 + (34 + (575 + (313 + (238 + (237 + (312 + (399 + (285 + 2)))))))))))))) ((⟨hT0 w.params, 15, (Life.mk [] [] [] 0 [] [] false (List.toArray []) [] 0 false false false 0 [2000, 10, 10] false 0 true [] [] 0 false), (Array.mk []), (Drawn.mk 0 0 0 0), 187, os⟩ : SharedT)).abs (restOf (behindTheImports pw) hEnv (Code.body (behindTheImports pw) hEnv) (Pos.mk 0 0 0 0) [topFrame (Pos.mk 0 0 0 0)]) = some (hSf w os) := by
  rw [show restOf (behindTheImports pw) hEnv (Code.body (behindTheImports pw) hEnv) (Pos.mk 0 0 0 0) [topFrame (Pos.mk 0 0 0 0)] = restOf (hSt1 ++ (hSt2 ++ (hSt3 ++ (hSt4 ++ (hSt5 ++ (hSt6 ++ (hSt7 ++ (hSt8 ++ (hSt9 ++ (hSt10 ++ (hSt11 ++ (hSt12 ++ (hSt13 ++ (hSt14 ++ [])))))))))))))) hEnv (Code.body (behindTheImports pw) hEnv) (Pos.mk 0 0 0 0) [topFrame (Pos.mk 0 0 0 0)] from congrArg (fun b => restOf b hEnv (Code.body (behindTheImports pw) hEnv) (Pos.mk 0 0 0 0) [topFrame (Pos.mk 0 0 0 0)]) hBody]
  exact hRun1 w os
theorem hRun (w : World) (os : OsState) : topRun treeTable pw w 11 (some (Value.ref 6)) (12 + (1 + (259 + (214 + (214 + (214 + (390 + (398 + (34 + (575 + (313 + (238 + (237 + (312 + (399 + (285 + 2)))))))))))))))) (⟨boot_heap w.params, Array.mk [], boot_drawn, boot_toks, os⟩ : Shared) (topStub pw) = some (hSf w os) :=
  (@go_top treeTable pw w 11 (some (Value.ref 6)) 12 (1 + (259 + (214 + (214 + (214 + (390 + (398 + (34 + (575 + (313 + (238 + (237 + (312 + (399 + (285 + 2))))))))))))))) (⟨boot_heap w.params, Array.mk [], boot_drawn, boot_toks, os⟩ : Shared) (⟨hHa w.params, (Array.mk []), (Drawn.mk 0 0 0 0), 187, os⟩ : Shared) (hSf w os) (topStub pw) ⟨denote treeTable (Code.body (behindTheImports pw) hEnv), (Code.body (behindTheImports pw) hEnv), (Pos.mk 0 0 0 0), [topFrame (Pos.mk 0 0 0 0)]⟩ (congrFun (hPre w) os) (@piece_block treeTable pw w 11 (some (Value.ref 6)) hEnv (Pos.mk 0 0 0 0) 1 (259 + (214 + (214 + (214 + (390 + (398 + (34 + (575 + (313 + (238 + (237 + (312 + (399 + (285 + 2)))))))))))))) (⟨hHa w.params, (Array.mk []), (Drawn.mk 0 0 0 0), 187, os⟩ : Shared) ((⟨hT0 w.params, 15, (Life.mk [] [] [] 0 [] [] false (List.toArray []) [] 0 false false false 0 [2000, 10, 10] false 0 true [] [] 0 false), (Array.mk []), (Drawn.mk 0 0 0 0), 187, os⟩ : SharedT)).abs (hSf w os) (behindTheImports pw) (Code.body (behindTheImports pw) hEnv) (Pos.mk 0 0 0 0) (Pos.mk 0 0 0 0) (congrFun (hBlock w) os) (hRun2 w os)))

noncomputable abbrev rw38 : OpenLaw := PySem.Challenge.rw_sq0038_01
noncomputable abbrev hH : Hook := kHook hK hKs (fun _ => by kernel_rfl)
noncomputable abbrev hXt (s : Shared) : Bool := xlAt hV hLv s && recOk (RowW.records rw38.row.toRowW) s
theorem hSize (w : World) : ((boot_heap w.params).isNs mainGlobals && (Array.mk [] : Array GenState).size == 0, (boot_heap w.params).objs.size, (boot_heap w.params).nsMap mainGlobals "__annotations__") = (true, 11, some (.ref 6)) := by
  rewrite [PySem.W.Fast.te8920871248978507458]
  kernel_rfl
theorem hLk1 (w : World) (os : OsState) : (staticsOk (importedModules pw.main.body) (boot_heap w.params) (hHf w.params) && namesBound pw (hHf w.params) && gensDone (hSf w os) && laidKept (boot_heap w.params) (hHf w.params)) = true := by
  rewrite [PySem.W.Fast.te5923862056798008813]
  kernel_rfl
theorem hLk2 (w : World) (os : OsState) : openSeen hV hL (importedModules pw.main.body) hXt true (hSf w os) = openGood hV hL := by
  unfold openSeen openGood
  refine looks_pair ?_ (looks_pair ?_ (looks_pair ?_ (looks_pair ?_ (looks_pair ?_ (looks_pair ?_ (looks_pair ?_ (looks_pair ?_ ?_)))))))
  · rewrite [PySem.W.Fast.te5160383126252970620, PySem.W.R.mapR_eq, PySem.W.Fast.te3399658132070893891, PySem.W.Fast.te5991557255702980513]
    kernel_rfl
  · kernel_rfl
  · unfold hXt
    rewrite [PySem.W.Fast.te10880121769531294198, PySem.W.Fast.te821141287760084731, PySem.W.R.mapR_eq, PySem.W.Fast.te3399658132070893891, PySem.W.Fast.te7409074990110511671, PySem.W.Fast.te13664370479719496447, PySem.W.Fast.te14722251495701143533, PySem.W.Fast.te5923862056798008813, PySem.W.Fast.te2368527892694137696, PySem.W.Fast.te10994771534591457954]
    kernel_rfl
  · rewrite [PySem.W.Fast.te479339242167458305]
    kernel_rfl
  · rewrite [PySem.W.Fast.te16090120013241838585, PySem.W.Fast.te3247288618530077131]
    kernel_rfl
  · rewrite [PySem.W.Fast.te2386780881361962483, PySem.W.Fast.te821141287760084731]
    kernel_rfl
  · rewrite [PySem.W.Fast.te11698064438423848299]
    kernel_rfl
  · rewrite [PySem.W.Fast.te7317090234206586261]
    kernel_rfl
  · rewrite [PySem.W.Fast.te7369524293546568484]
    kernel_rfl
theorem hLk3 (w : World) (os : OsState) : hH.obs (hSf w os) = hH.val w := by
  kernel_rfl
theorem hLooks (w : World) : (fun os => ((staticsOk (importedModules pw.main.body) (boot_heap w.params) (hHf w.params) && namesBound pw (hHf w.params) && gensDone (hSf w os) && laidKept (boot_heap w.params) (hHf w.params)), openSeen hV hL (importedModules pw.main.body) hXt true (hSf w os), hH.obs (hSf w os))) = fun _ => (true, openGood hV hL, hH.val w) :=
  funext fun os => looks_pair (hLk1 w os) (looks_pair (hLk2 w os) (hLk3 w os))
theorem hOpen1 : opening pw = plainProg pw.main.scope.names := by kernel_rfl
theorem hOpen2 (s : Shared) : fenceModules? pw s = some s := by kernel_rfl
theorem hLeft : LeftO pw hV hL hXt hH.obs hH.val 8262 := LeftO.of_pieces (boot_open hOpen1 (by decide) hOpen2) hSize hRun (by decide +kernel) hLooks


open PySem.W.Fast PySem.W.R PySem.W.S in
theorem hSaid : rw38.wellSaid = true := by
  unfold OpenLaw.wellSaid OpenRow.wellSaid OpenRow.partSaid looksOpen
  repeat' with_reducible refine look_both ?_ ?_
  all_goals (repeat (first | rewrite [te11788848310118352699] | rewrite [te2368527892694137696] | rewrite [te9807087744658564304] | rewrite [te12862048085361865435] | rewrite [te8377067652309620493] | rewrite [allR_eq] | rewrite [te18344453789297297638] | rewrite [te3471404346716756564] | rewrite [sDec_eq] | rewrite [te14412699480532031325] | rewrite [te8326940854005059898] | rewrite [te5923862056798008813] | rewrite [te17691160309236699985] | rewrite [filterR_eq] | rewrite [te13343964577679436407] | rewrite [te17119622794617984870] | rewrite [te17868728402115742887] | rewrite [te9706382859710513879] | rewrite [strDecS_eq] | rewrite [te2357444279172408678] | rewrite [mapR_eq] | rewrite [te4857012375875476094] | rewrite [named_eq] | rewrite [te13582783067957832011] | rewrite [te5318747976498570220] | rewrite [te4579403493507170074] | rewrite [anyR_eq] | rewrite [te4274047373036748609] | rewrite [te12749700546528644094] | rewrite [te10501279942588096481] | rewrite [te8179353310426384613] | rewrite [te797321630700447069] | rewrite [te9572597257264208301] | rewrite [te9558739934217749035] | rewrite [te16286561074155671207] | rewrite [te6984425678791042302] | rewrite [te17095254045102204799] | rewrite [te12879404354523853263] | rewrite [te482687673346738481] | rewrite [te10792542408131684335] | rewrite [te7723801398212525404]))
  all_goals kernel_rfl
noncomputable abbrev hD : Option (DefRec × List (Str × PySem.Expr)) := defOf hV rw38.row.name
theorem hd {d : DefRec} {kwd : List (Str × PySem.Expr)} (hdef : defOf hV rw38.row.name = some (d, kwd)) (hp : rw38.row.prog.theDef rw38.row.name = some (d.params, d.body, d.scope)) (hk : kwWritten? d.params.kwonlyargs d.params.kw_defaults = some kwd)
    (walk : WalkO hV hL (XL hV hLv) hH.says rw38.row.toRowW d kwd fun f vs => PySem.call f vs) : rw38.Holds :=
  holds_law hSaid fun said => holds_open (Xt := hXt) (N := 8262) hLeft hH.of hH.keeps (fun s e => xl_of s (Bool.and_eq_true_iff.mp e).1) XL.keeps hdef hp hk (fun s e => recFacts_of (Bool.and_eq_true_iff.mp e).2) (by rfl) said (by decide +kernel)
    ⟨rfl, rfl, rfl, rfl, rfl, by decide +kernel⟩ ⟨[.list []], by decide +kernel, by decide +kernel⟩ walk


abbrev Ent := Addr × Obj
abbrev Led := List (List Ent)
abbrev Locs := List (Str × Option Value)

structure Fm where
  w : World
  A : Around
  env : Env
  fenv : Env
  outer : List Env
  A₀ : Around
  base : Heap
  h₀ : Heap
  L : Addr
  comp : Option (Str → Option Value)
  gens : Array GenState
  drawn : Drawn
  os : OsState
  loose : List Str
  mean : ExcName → Option Value
  mg : Str → Option Value
  mb : Str → Option Value
  room : Nat

def NsO (a : Addr) (o : Obj) (m : Str → Option Value) : Prop := ∀ h : Heap, h.get? a = some o → h.Ns a m
def NsIs (m : Str → Option Value) (ls : Locs) : Prop := ∀ x ov, ls.lookup x = some ov → m x = ov

structure Fm.Ok (Γ : Fm) (gl : List (Str × Value)) (cl : List (Str × Addr)) : Prop where
  below : Below Γ.A₀ Γ.base Γ.outer Γ.h₀
  kin : (hK Γ.w.params).In Γ.h₀
  top : Top hV Γ.loose Γ.mean Γ.mg Γ.mb Γ.h₀
  frames : Γ.A.frames = some (Γ.fenv :: Γ.outer)
  ffr : Γ.fenv.frame = some Γ.L
  fkind : Γ.fenv.scope.kind = .function
  hnd : Γ.A.handled = none
  depth : Γ.A.depth + Γ.room < recursionLimit
  units : Γ.A.units + 10 * (Γ.room + 1) < cLine
  kind : Γ.env.scope.kind = .function
  glob : Γ.env.globals = mainGlobals
  bult : Γ.env.builtins = builtinsNs
  glok : ∀ x v, gl.lookup x = some v → Γ.env.kindOf x = some .globalImplicit ∧ (x == ("__debug__" : Str)) = false ∧
    (nsIn (hK Γ.w.params) mainGlobals x = some (some v) ∨ (nsIn (hK Γ.w.params) mainGlobals x = some none ∧ bootBuiltins x = some v ∧ x ≠ "__name__"))
  clok : ∀ x c, cl.lookup x = some c → (x == ("__debug__" : Str)) = false ∧ (x == ("__classdict__" : Str)) = false ∧ Γ.env.cells.lookup x = some c ∧ (Γ.env.kindOf x = some .cell ∨ Γ.env.kindOf x = some .free)
  plain : Γ.comp = none → Γ.env = Γ.fenv ∧ Γ.env.locals = Γ.L

def Loc (Γ : Fm) (m : Str → Option Value) (ex : List Ent) (ls : Locs) : Prop :=
  (∀ x ov, ls.lookup x = some ov → Γ.env.kindOf x = some .local ∧ (x == ("__debug__" : Str)) = false) ∧
  match Γ.comp with
  | none => ex = [] ∧ NsIs m ls
  | some mf => m = mf ∧ ∃ oC mC, ex = [(Γ.env.locals, oC)] ∧ NsO Γ.env.locals oC mC ∧ NsIs mC ls

def St (Γ : Fm) (h : Heap) (ls : Locs) (led : Led) (tl : List Ent) : Prop :=
  ∃ m ex, Fr Γ.h₀ Γ.L h m ∧ News Γ.h₀ Γ.L h (led.flatten ++ (ex ++ tl)) ∧ ((led.flatten ++ (ex ++ tl)).map (·.1)).Nodup ∧ Loc Γ m ex ls

inductive Post (Γ : Fm) {α : Type} (Q : α → Locs → Led → Prop) (tl : List Ent) (a : α) (s : Shared) : Prop
  | mk (h : Heap) (tk : Nat) (ls : Locs) (led : Led) : s = ⟨h, Γ.gens, Γ.drawn, tk, Γ.os⟩ → St Γ h ls led tl → Q a ls led → Post Γ Q tl a s
def noE (_ : Value) (_ : Shared) : Prop := False
def WP (Γ : Fm) (gl : List (Str × Value)) (cl : List (Str × Addr)) (ls : Locs) (led : Led) {α : Type} (t : Sem α) (Q : α → Locs → Led → Prop) : Prop :=
  Γ.Ok gl cl → ∀ h tk tl, St Γ h ls led tl → wpAny (model pw Γ.w) Γ.A t (Post Γ Q tl) noE ⟨h, Γ.gens, Γ.drawn, tk, Γ.os⟩

section
variable {Γ : Fm} {gl : List (Str × Value)} {cl : List (Str × Addr)} {ls : Locs} {led : Led} {α β : Type}

theorem St.lift {h : Heap} {tl : List Ent} (st : St Γ h ls led tl) : ∃ m ex, Fr Γ.h₀ Γ.L h m ∧ News Γ.h₀ Γ.L h (led.flatten ++ (ex ++ tl)) ∧ ((led.flatten ++ (ex ++ tl)).map (·.1)).Nodup ∧
    (∀ h' (led' : Led), Fr Γ.h₀ Γ.L h' m → News Γ.h₀ Γ.L h' (List.flatten led' ++ (ex ++ tl)) → ((List.flatten led' ++ (ex ++ tl)).map (·.1)).Nodup → St Γ h' ls led' tl) := by
  obtain ⟨m, ex, F, N, nd, lc⟩ := st
  exact ⟨m, ex, F, N, nd, fun h' led' F' N' nd' => ⟨m, ex, F', N', nd', lc⟩⟩

theorem WP.run {P : α → Shared → Prop} {t : Sem α} {Q : α → Locs → Led → Prop} (H : WP Γ gl cl ls led t Q) (ok : Γ.Ok gl cl) {h : Heap} {tk : Nat} {tl : List Ent} (st : St Γ h ls led tl)
    (k : ∀ a h' tk' ls' led', St Γ h' ls' led' tl → Q a ls' led' → P a ⟨h', Γ.gens, Γ.drawn, tk', Γ.os⟩) : wpAny (model pw Γ.w) Γ.A t P noE ⟨h, Γ.gens, Γ.drawn, tk, Γ.os⟩ :=
  wpAny_mono (H ok h tk tl st) (by rintro a s' ⟨h', tk', ls', led', rfl, st', q⟩; exact k _ _ _ _ _ st' q) fun _ _ x => x

theorem WP.go {t : Sem α} {Q : α → Locs → Led → Prop} (H : WP Γ gl cl ls led t Q) (ok : Γ.Ok gl cl) {h : Heap} {tk : Nat} {tl : List Ent} (st : St Γ h ls led tl) {P : α → Shared → Prop} {E : Value → Shared → Prop}
    (k : ∀ a h' tk' ls' led', St Γ h' ls' led' tl → Q a ls' led' → P a ⟨h', Γ.gens, Γ.drawn, tk', Γ.os⟩) : wpAny (model pw Γ.w) Γ.A t P E ⟨h, Γ.gens, Γ.drawn, tk, Γ.os⟩ :=
  wpAny_mono (H.run ok st k) (fun _ _ x => x) fun _ _ x => x.elim
theorem WP.goE {t : Sem α} {X : Locs} {Y : Led} (H : WP Γ gl cl ls led t fun _ l d => l = X ∧ d = Y) (ok : Γ.Ok gl cl) {h : Heap} {tk : Nat} {tl : List Ent} (st : St Γ h ls led tl) {P : α → Shared → Prop} {E : Value → Shared → Prop}
    (k : ∀ a h' tk', St Γ h' X Y tl → P a ⟨h', Γ.gens, Γ.drawn, tk', Γ.os⟩) : wpAny (model pw Γ.w) Γ.A t P E ⟨h, Γ.gens, Γ.drawn, tk, Γ.os⟩ :=
  H.go ok st fun a h' tk' ls' led' st' e => k a h' tk' (e.1 ▸ e.2 ▸ st')
theorem WP.goV {t : Sem α} {v : α} {X : Locs} {Y : Led} (H : WP Γ gl cl ls led t fun y l d => y = v ∧ l = X ∧ d = Y) (ok : Γ.Ok gl cl) {h : Heap} {tk : Nat} {tl : List Ent} (st : St Γ h ls led tl) {P : α → Shared → Prop} {E : Value → Shared → Prop}
    (k : ∀ h' tk', St Γ h' X Y tl → P v ⟨h', Γ.gens, Γ.drawn, tk', Γ.os⟩) : wpAny (model pw Γ.w) Γ.A t P E ⟨h, Γ.gens, Γ.drawn, tk, Γ.os⟩ :=
  H.go ok st fun a h' tk' ls' led' st' e => e.1 ▸ k h' tk' (e.2.1 ▸ e.2.2 ▸ st')
theorem WP.bind {t : Sem α} {f : α → Sem β} {Q : β → Locs → Led → Prop} (H : WP Γ gl cl ls led t (fun a ls1 led1 => WP Γ gl cl ls1 led1 (f a) Q)) : WP Γ gl cl ls led (t >>= f) Q :=
  fun ok _ _ _ st => wpAny_bind (H.run ok st fun _ _ _ _ _ st1 H1 => H1 ok _ _ _ st1)

theorem WP.pure {a : α} {Q : α → Locs → Led → Prop} (h : Q a ls led) : WP Γ gl cl ls led (pure a) Q :=
  fun _ _ _ _ st => wpAny_pure ⟨_, _, _, _, rfl, st, h⟩

theorem WP.mono {t : Sem α} {Q Q' : α → Locs → Led → Prop} (H : WP Γ gl cl ls led t Q) (k : ∀ a ls' led', Q a ls' led' → Q' a ls' led') : WP Γ gl cl ls led t Q' :=
  fun ok _ _ _ st => H.run ok st fun _ _ _ _ _ st1 q => ⟨_, _, _, _, rfl, st1, k _ _ _ q⟩

theorem St.perm {h : Heap} {tl tl' : List Ent} {led' : Led} (st : St Γ h ls led tl) (p : (led.flatten ++ tl).Perm (led'.flatten ++ tl')) : St Γ h ls led' tl' := by
  obtain ⟨m, ex, F, N, nd, lc⟩ := st
  have q : (led.flatten ++ (ex ++ tl)).Perm (led'.flatten ++ (ex ++ tl')) := by
    have a1 : (led.flatten ++ (ex ++ tl)).Perm (ex ++ (led.flatten ++ tl)) := by
      rw [← List.append_assoc, ← List.append_assoc]; exact List.Perm.append_right _ List.perm_append_comm
    have a2 : (led'.flatten ++ (ex ++ tl')).Perm (ex ++ (led'.flatten ++ tl')) := by
      rw [← List.append_assoc, ← List.append_assoc]; exact List.Perm.append_right _ List.perm_append_comm
    exact a1.trans ((p.append_left ex).trans a2.symm)
  exact ⟨m, ex, F, fun x hx => N x (q.mem_iff.mpr hx), (q.map _).nodup_iff.mp nd, lc⟩

theorem WP.frame {t : Sem α} {fp rest : Led} {Q : α → Locs → Led → Prop} (H : WP Γ gl cl ls fp t Q) (p : led.Perm (fp ++ rest)) :
    WP Γ gl cl ls led t (fun a ls' led' => ∃ fp', led' = fp' ++ rest ∧ Q a ls' fp') := fun ok h tk tl st => by
  have q : (led.flatten ++ tl).Perm (fp.flatten ++ (rest.flatten ++ tl)) := by
    rw [← List.append_assoc, ← List.flatten_append]; exact List.Perm.append_right _ p.flatten
  refine H.run ok (st.perm q) fun a h' tk' ls' led' st' hq => ⟨h', tk', ls', led' ++ rest, rfl, st'.perm ?_, led', rfl, hq⟩
  rw [List.flatten_append, List.append_assoc]

theorem WP.perm {t : Sem α} {led' : Led} {Q : α → Locs → Led → Prop} (p : led.Perm led') (H : WP Γ gl cl ls led' t Q) : WP Γ gl cl ls led t Q := fun ok h tk tl st =>
  H ok h tk tl (st.perm (List.Perm.append_right _ p.flatten))

theorem WP.drop {t : Sem α} {fp rest : Led} {Q : α → Locs → Led → Prop} (p : led.Perm (fp ++ rest)) (H : WP Γ gl cl ls fp t Q) : WP Γ gl cl ls led t (fun a ls' led' => ∃ fp', led' = fp' ++ rest ∧ Q a ls' fp') := H.frame p

/-- forget a part of the ledger, for good -/
theorem WP.forget {t : Sem α} {fp rest : Led} {Q : α → Locs → Led → Prop} (p : led.Perm (fp ++ rest)) (H : WP Γ gl cl ls fp t Q) : WP Γ gl cl ls led t Q := fun ok h tk tl st => by
  have q : (led.flatten ++ tl).Perm (fp.flatten ++ (rest.flatten ++ tl)) := by
    rw [← List.append_assoc, ← List.flatten_append]; exact List.Perm.append_right _ p.flatten
  refine H.run ok (st.perm q) fun a h' tk' ls' led' st' hq => ⟨h', tk', ls', led', rfl, ?_, hq⟩
  obtain ⟨m, ex, F, N, nd, lc⟩ := st'
  have hs : (led'.flatten ++ (ex ++ tl)).Sublist (led'.flatten ++ (ex ++ (rest.flatten ++ tl))) :=
    List.Sublist.append_left (List.Sublist.append_left (List.sublist_append_right _ _) _) _
  exact ⟨m, ex, F, fun x hx => N x (hs.subset hx), (hs.map _).nodup nd, lc⟩

theorem w_gen {t : Sem α} {Q : α → Locs → Led → Prop} (H : ∀ Q' : α → Locs → Led → Prop, (∀ a ls' led', Q a ls' led' → Q' a ls' led') → WP Γ gl cl ls led t Q') : WP Γ gl cl ls led t Q := H Q fun _ _ _ h => h

inductive Pick : Led → List Ent → Led → Prop
  | head {c : List Ent} {r : Led} : Pick (c :: r) c r
  | tail {d c : List Ent} {r r' : Led} : Pick r c r' → Pick (d :: r) c (d :: r')
inductive Picks : Led → Led → Led → Prop
  | nil {l : Led} : Picks l [] l
  | cons {l l1 rest fp : Led} {c : List Ent} : Pick l c l1 → Picks l1 fp rest → Picks l (c :: fp) rest
theorem Pick.perm {l : Led} {c : List Ent} {r : Led} (p : Pick l c r) : l.Perm (c :: r) := by
  induction p with
  | head => exact .refl _
  | tail _ ih => exact (ih.cons _).trans (List.Perm.swap _ _ _)
theorem Picks.perm {l fp rest : Led} (p : Picks l fp rest) : l.Perm (fp ++ rest) := by
  induction p with
  | nil => exact .refl _
  | cons p _ ih => exact p.perm.trans (ih.cons _)

/-- a part of the ledger may be forgotten, the rest grouped anew -/
def Drop (J : Led → Prop) (led : Led) : Prop := ∃ l r : Led, led.flatten.Perm (l.flatten ++ r.flatten) ∧ J l
theorem drop_ {J : Led → Prop} {led l l2 r : Led} (p : Picks led l r) (e : l.flatten = l2.flatten) (h : J l2) : Drop J led :=
  ⟨l2, r, by rw [← e, ← List.flatten_append]; exact p.perm.flatten, h⟩
theorem done_ {J : Led → Prop} {led l r : Led} (p : Picks led l r) (h : J l) : Drop J led := drop_ p rfl h
inductive At (a : Addr) (o : Obj) : Led → Prop
  | head {c : List Ent} {r : Led} : (a, o) ∈ c → At a o (c :: r)
  | tail {c : List Ent} {r : Led} : At a o r → At a o (c :: r)
theorem At.mem {a : Addr} {o : Obj} {l : Led} (x : At a o l) : (a, o) ∈ l.flatten := by
  induction x with
  | head h => rw [List.flatten_cons]; exact List.mem_append_left _ h
  | tail _ ih => rw [List.flatten_cons]; exact List.mem_append_right _ ih
theorem At.of_mem {a : Addr} {o : Obj} {l : Led} (x : (a, o) ∈ l.flatten) : At a o l := by
  induction l with
  | nil => cases x
  | cons c r ih =>
    rw [List.flatten_cons] at x
    rcases List.mem_append.mp x with h | h
    · exact .head h
    · exact .tail (ih h)

inductive Rep (a : Addr) (o o' : Obj) : Led → Led → Prop
  | head {r : Led} : Rep a o o' ([(a, o)] :: r) ([(a, o')] :: r)
  | tail {c : List Ent} {r r' : Led} : Rep a o o' r r' → Rep a o o' (c :: r) (c :: r')
theorem Rep.split {a : Addr} {o o' : Obj} {l l' : Led} (x : Rep a o o' l l') : ∃ pre post, l.flatten = pre ++ (a, o) :: post ∧ l'.flatten = pre ++ (a, o') :: post := by
  induction x with
  | head => exact ⟨[], _, rfl, rfl⟩
  | @tail c r r' _ ih =>
    obtain ⟨pre, post, e1, e2⟩ := ih
    exact ⟨c ++ pre, post, by rw [List.flatten_cons, e1, List.append_assoc], by rw [List.flatten_cons, e2, List.append_assoc]⟩
theorem Rep.at {a : Addr} {o o' : Obj} {l l' : Led} (x : Rep a o o' l l') : At a o l := by
  induction x with
  | head => exact .head (.head _)
  | tail _ ih => exact .tail ih
theorem nodup_ne {pre post : List Ent} {a : Addr} {o : Obj} (nd : ((pre ++ (a, o) :: post).map (·.1)).Nodup) : (∀ p ∈ pre, p.1 ≠ a) ∧ ∀ p ∈ post, p.1 ≠ a := by
  rw [List.map_append, List.map_cons, List.nodup_append] at nd
  obtain ⟨_, n2, n3⟩ := nd
  refine ⟨fun p hp => n3 _ (List.mem_map_of_mem hp) _ (.head _), fun p hp e => ?_⟩
  rw [List.nodup_cons] at n2
  exact n2.1 (List.mem_map.mpr ⟨p, hp, e⟩)
theorem Rep.upd {a : Addr} {o o' : Obj} {l l' : Led} (x : Rep a o o' l l') {tl : List Ent} (nd : ((l.flatten ++ tl).map (·.1)).Nodup) : Upd a o o' (l.flatten ++ tl) (l'.flatten ++ tl) ∧ ((l'.flatten ++ tl).map (·.1)).Nodup := by
  obtain ⟨pre, post, e1, e2⟩ := x.split
  rw [e1] at nd ⊢
  rw [e2]
  have e3 : ∀ o'', pre ++ (a, o'') :: post ++ tl = pre ++ (a, o'') :: (post ++ tl) := fun o'' => by simp
  rw [e3] at nd ⊢
  rw [e3]
  obtain ⟨n1, n2⟩ := nodup_ne nd
  refine ⟨?_, by simpa using nd⟩
  clear nd e1 e2 e3 x
  induction pre with
  | nil => exact .head n2
  | cons p r ih => exact .tail (n1 p (.head _)) (ih fun q hq => n1 q (.tail _ hq))
theorem Rep.updF {a : Addr} {o o' : Obj} {l l' : Led} (x : Rep a o o' l l') {tl : List Ent} (nd : ((l.flatten ++ tl).map (·.1)).Nodup) :
    ∃ pre post, l.flatten ++ tl = pre ++ (a, o) :: post ∧ l'.flatten ++ tl = pre ++ (a, o') :: post ∧ (∀ p ∈ pre, p.1 ≠ a) ∧ (∀ p ∈ post, p.1 ≠ a) ∧ ((l'.flatten ++ tl).map (·.1)).Nodup := by
  obtain ⟨u, n⟩ := x.upd nd
  obtain ⟨pre, post, e1, e2, n1, n2⟩ := u.split
  exact ⟨pre, post, e1, e2, n1, n2, n⟩
end

section
variable {Γ : Fm} {gl : List (Str × Value)} {cl : List (Str × Addr)} {ls : Locs} {led : Led} {α β : Type}

theorem w_int {i : Int} {k : Nat} {pos : Pos} {Q : Value → Locs → Led → Prop} (h : ∀ t, Q (.int i t) ls led) : WP Γ gl cl ls led (eval (.Constant (.int i) k pos) Γ.env) Q :=
  fun _ _ _ _ st => wpAny_Constant_int ⟨_, _, _, _, rfl, st, h _⟩
theorem w_str {x : Str} {k : Nat} {pos : Pos} {Q : Value → Locs → Led → Prop} (h : ∀ t, Q (.str x t) ls led) : WP Γ gl cl ls led (eval (.Constant (.str x) k pos) Γ.env) Q :=
  fun _ _ _ _ st => wpAny_Constant_str ⟨_, _, _, _, rfl, st, h _⟩
theorem w_bool {b : Bool} {k : Nat} {pos : Pos} {Q : Value → Locs → Led → Prop} (h : Q (.bool b) ls led) : WP Γ gl cl ls led (eval (.Constant (.bool b) k pos) Γ.env) Q :=
  fun _ _ _ _ st => wpAny_Constant_bool ⟨_, _, _, _, rfl, st, h⟩
theorem w_none {k : Nat} {pos : Pos} {Q : Value → Locs → Led → Prop} (h : Q .none ls led) : WP Γ gl cl ls led (eval (.Constant .none k pos) Γ.env) Q :=
  fun _ _ _ _ st => wpAny_Constant_none ⟨_, _, _, _, rfl, st, h⟩

theorem St.ns {h : Heap} {tl : List Ent} (ok : Γ.Ok gl cl) (st : St Γ h ls led tl) : ∃ m, h.Ns Γ.env.locals m ∧ NsIs m ls := by
  obtain ⟨m, ex, F, N, nd, hk, lc⟩ := st
  cases hc : Γ.comp with
  | none =>
    rw [hc] at lc
    exact ⟨m, (ok.plain hc).2 ▸ F.ns, lc.2⟩
  | some mf =>
    rw [hc] at lc
    obtain ⟨_, oC, mC, rfl, hn, hi⟩ := lc
    exact ⟨mC, hn _ (N _ (List.mem_append_right _ (.head _))).1, hi⟩
theorem St.kind {h : Heap} {tl : List Ent} (st : St Γ h ls led tl) {x : Str} {ov : Option Value} (e : ls.lookup x = some ov) : Γ.env.kindOf x = some .local ∧ (x == ("__debug__" : Str)) = false := by
  obtain ⟨m, ex, F, N, nd, hk, lc⟩ := st
  exact hk x ov e
theorem St.get {h : Heap} {tl : List Ent} (st : St Γ h ls led tl) {a : Addr} {o : Obj} (x : At a o led) : h.get? a = some o := by
  obtain ⟨m, ex, F, N, nd, lc⟩ := st
  exact (N _ (List.mem_append_left _ x.mem)).1

theorem w_loc {x : Str} {pos : Pos} {v : Value} {Q : Value → Locs → Led → Prop} (hx : ls.lookup x = some (some v)) (h : Q v ls led) : WP Γ gl cl ls led (eval (.Name x pos) Γ.env) Q :=
  fun ok _ _ _ st => by
    obtain ⟨m, hn, hi⟩ := st.ns ok
    exact wpAny_Name (wpAny_loadName_local ok.kind (st.kind hx).1 hn (hi _ _ hx) ⟨_, _, _, _, rfl, st, h⟩) (st.kind hx).2
theorem w_glob {x : Str} {pos : Pos} {v : Value} {Q : Value → Locs → Led → Prop} (hx : gl.lookup x = some v) (h : Q v ls led) : WP Γ gl cl ls led (eval (.Name x pos) Γ.env) Q :=
  fun ok _ _ _ st => by
    obtain ⟨k, d, g⟩ := ok.glok x v hx
    have T := ok.top
    obtain ⟨m, ex, F, N, nd, _⟩ := id st
    rcases g with g | ⟨g, b, n⟩
    · exact Name_function_global ok.kind k (loadGlobal_global (by rw [ok.glob]; exact T.g.keeps F.keep) (mg_of ok.kin T.g g) ⟨_, _, _, _, rfl, st, h⟩) d
    · exact Name_function_global ok.kind k (loadGlobal_builtin (by rw [ok.glob]; exact T.g.keeps F.keep) (mg_none_of ok.kin T.g g) (by rw [ok.bult]; exact T.b.keeps F.keep) ((T.builtins x n).trans b) ⟨_, _, _, _, rfl, st, h⟩) d
theorem w_cell {x : Str} {pos : Pos} {v : Value} {c : Addr} {o : Obj} {Q : Value → Locs → Led → Prop} (hx : cl.lookup x = some c) (a : At c o led) (hd : o.data = .cell (some v)) (h : Q v ls led) : WP Γ gl cl ls led (eval (.Name x pos) Γ.env) Q :=
  fun ok _ _ _ st => by
    obtain ⟨d, d2, hc, k⟩ := ok.clok x c hx
    rcases k with k | k
    · exact wpAny_Name (wpAny_loadName_cell ok.kind k hc ⟨o, st.get a, hd⟩ ⟨_, _, _, _, rfl, st, h⟩) d
    · exact wpAny_Name (wpAny_loadName_free ok.kind k hc ⟨o, st.get a, hd⟩ ⟨_, _, _, _, rfl, st, h⟩ d2) d

abbrev KBinOp (Γ : Fm) (gl : List (Str × Value)) (cl : List (Str × Addr)) (op : Operator) (Q : Value → Locs → Led → Prop) (a : Value) (b : Value) (ls2 : Locs) (led2 : Led) : Prop := WP Γ gl cl ls2 led2 (binaryOp op a b) Q
abbrev KBinOp2 (Γ : Fm) (gl : List (Str × Value)) (cl : List (Str × Addr)) (r : Expr) (op : Operator) (Q : Value → Locs → Led → Prop) (a : Value) (ls1 : Locs) (led1 : Led) : Prop := WP Γ gl cl ls1 led1 (eval r Γ.env) (KBinOp Γ gl cl op Q a)
theorem w_BinOp {l r : Expr} {op : Operator} {pos : Pos} {Q : Value → Locs → Led → Prop}
    (H : WP Γ gl cl ls led (eval l Γ.env) (KBinOp2 Γ gl cl r op Q)) :
    WP Γ gl cl ls led (eval (.BinOp l op r pos) Γ.env) Q :=
  fun ok _ _ _ st => wpAny_BinOp (H.run ok st fun _ _ _ _ _ st1 H1 => H1.run ok st1 fun _ _ _ _ _ st2 H2 => H2 ok _ _ _ st2)
abbrev KUnaryOp (Γ : Fm) (gl : List (Str × Value)) (cl : List (Str × Addr)) (op : UnaryOp) (Q : Value → Locs → Led → Prop) (a : Value) (ls1 : Locs) (led1 : Led) : Prop := WP Γ gl cl ls1 led1 (unaryOp op a) Q
theorem w_UnaryOp {x : Expr} {op : UnaryOp} {pos : Pos} {Q : Value → Locs → Led → Prop}
    (H : WP Γ gl cl ls led (eval x Γ.env) (KUnaryOp Γ gl cl op Q)) : WP Γ gl cl ls led (eval (.UnaryOp op x pos) Γ.env) Q :=
  fun ok _ _ _ st => wpAny_UnaryOp (H.run ok st fun _ _ _ _ _ st1 H1 => H1 ok _ _ _ st1)
abbrev KCompare1 (Γ : Fm) (gl : List (Str × Value)) (cl : List (Str × Addr)) (op : CmpOp) (Q : Value → Locs → Led → Prop) (a : Value) (b : Value) (ls2 : Locs) (led2 : Led) : Prop := WP Γ gl cl ls2 led2 (compareOp op a b) Q
abbrev KCompare12 (Γ : Fm) (gl : List (Str × Value)) (cl : List (Str × Addr)) (r : Expr) (op : CmpOp) (Q : Value → Locs → Led → Prop) (a : Value) (ls1 : Locs) (led1 : Led) : Prop := WP Γ gl cl ls1 led1 (eval r Γ.env) (KCompare1 Γ gl cl op Q a)
theorem w_Compare1 {l r : Expr} {op : CmpOp} {pos : Pos} {Q : Value → Locs → Led → Prop}
    (H : WP Γ gl cl ls led (eval l Γ.env) (KCompare12 Γ gl cl r op Q))
    (hm : behindInMarks op r = false := by with_unfolding_all rfl) :
    WP Γ gl cl ls led (eval (.Compare l [op] [r] pos) Γ.env) Q :=
  fun ok _ _ _ st => wpAny_Compare1 (H.run ok st fun _ _ _ _ _ st1 H1 => H1.run ok st1 fun _ _ _ _ _ st2 H2 => H2 ok _ _ _ st2) hm
abbrev KtCompare1 (Γ : Fm) (gl : List (Str × Value)) (cl : List (Str × Addr)) (Q : Bool → Locs → Led → Prop) (c : Value) (ls3 : Locs) (led3 : Led) : Prop := WP Γ gl cl ls3 led3 (truthy c) Q
abbrev KtCompare12 (Γ : Fm) (gl : List (Str × Value)) (cl : List (Str × Addr)) (op : CmpOp) (Q : Bool → Locs → Led → Prop) (a : Value) (b : Value) (ls2 : Locs) (led2 : Led) : Prop := WP Γ gl cl ls2 led2 (compareOp op a b) (KtCompare1 Γ gl cl Q)
abbrev KtCompare13 (Γ : Fm) (gl : List (Str × Value)) (cl : List (Str × Addr)) (r : Expr) (op : CmpOp) (Q : Bool → Locs → Led → Prop) (a : Value) (ls1 : Locs) (led1 : Led) : Prop := WP Γ gl cl ls1 led1 (eval r Γ.env) (KtCompare12 Γ gl cl op Q a)
theorem w_tCompare1 {l r : Expr} {op : CmpOp} {pos : Pos} {whole : Sem Value} {Q : Bool → Locs → Led → Prop}
    (H : WP Γ gl cl ls led (eval l Γ.env) (KtCompare13 Γ gl cl r op Q))
    (hm : behindInMarks op r = false := by with_unfolding_all rfl) :
    WP Γ gl cl ls led (isTrue (.Compare l [op] [r] pos) Γ.env whole) Q :=
  fun ok _ _ _ st => wpAny_isTrue_Compare1 (H.run ok st fun _ _ _ _ _ st1 H1 => H1.run ok st1 fun _ _ _ _ _ st2 H2 => H2.run ok st2 fun _ _ _ _ _ st3 H3 => H3 ok _ _ _ st3) hm
/-- low <= value <= high, as a value -/
abbrev KCompare2 (Γ : Fm) (gl : List (Str × Value)) (cl : List (Str × Addr)) (op₂ : CmpOp) (Q : Value → Locs → Led → Prop) (b : Value) (d : Value) (ls5 : Locs) (led5 : Led) : Prop := WP Γ gl cl ls5 led5 (compareOp op₂ b d) Q
abbrev KCompare22 (Γ : Fm) (gl : List (Str × Value)) (cl : List (Str × Addr)) (r₂ : Expr) (op₂ : CmpOp) (Q : Value → Locs → Led → Prop) (b : Value) (c : Value) (t : Bool) (ls4 : Locs) (led4 : Led) : Prop :=
      if t then WP Γ gl cl ls4 led4 (eval r₂ Γ.env) (KCompare2 Γ gl cl op₂ Q b) else Q c ls4 led4
abbrev KCompare23 (Γ : Fm) (gl : List (Str × Value)) (cl : List (Str × Addr)) (r₂ : Expr) (op₂ : CmpOp) (Q : Value → Locs → Led → Prop) (b : Value) (c : Value) (ls3 : Locs) (led3 : Led) : Prop := WP Γ gl cl ls3 led3 (truthy c) (KCompare22 Γ gl cl r₂ op₂ Q b c)
abbrev KCompare24 (Γ : Fm) (gl : List (Str × Value)) (cl : List (Str × Addr)) (r₂ : Expr) (op₁ : CmpOp) (op₂ : CmpOp) (Q : Value → Locs → Led → Prop) (a : Value) (b : Value) (ls2 : Locs) (led2 : Led) : Prop := WP Γ gl cl ls2 led2 (compareOp op₁ a b) (KCompare23 Γ gl cl r₂ op₂ Q b)
abbrev KCompare25 (Γ : Fm) (gl : List (Str × Value)) (cl : List (Str × Addr)) (r₁ : Expr) (r₂ : Expr) (op₁ : CmpOp) (op₂ : CmpOp) (Q : Value → Locs → Led → Prop) (a : Value) (ls1 : Locs) (led1 : Led) : Prop := WP Γ gl cl ls1 led1 (eval r₁ Γ.env) (KCompare24 Γ gl cl r₂ op₁ op₂ Q a)
theorem w_Compare2 {l r₁ r₂ : Expr} {op₁ op₂ : CmpOp} {pos : Pos} {Q : Value → Locs → Led → Prop}
    (H : WP Γ gl cl ls led (eval l Γ.env) (KCompare25 Γ gl cl r₁ r₂ op₁ op₂ Q))
    (hm : lastMarks [op₁, op₂] [r₁, r₂] = false := by with_unfolding_all rfl) :
    WP Γ gl cl ls led (eval (.Compare l [op₁, op₂] [r₁, r₂] pos) Γ.env) Q :=
  fun ok _ _ _ st => Compare_chain (H.run ok st fun _ _ _ _ _ st1 H1 => chain_link (H1.run ok st1 fun _ _ _ _ _ st2 H2 => H2.run ok st2 fun _ _ _ _ _ st3 H3 => H3.run ok st3 fun t _ _ _ _ st4 H4 => by
    cases t with
    | true =>
      simp only [if_true] at H4 ⊢
      exact chain_last (H4.run ok st4 fun _ _ _ _ _ st5 H5 => H5 ok _ _ _ st5)
    | false =>
      simp only [Bool.false_eq_true, if_false] at H4 ⊢
      exact ⟨_, _, _, _, rfl, st4, H4⟩)) hm
abbrev KtCompare2 (Γ : Fm) (gl : List (Str × Value)) (cl : List (Str × Addr)) (Q : Bool → Locs → Led → Prop) (e : Value) (ls6 : Locs) (led6 : Led) : Prop := WP Γ gl cl ls6 led6 (truthy e) Q
abbrev KtCompare22 (Γ : Fm) (gl : List (Str × Value)) (cl : List (Str × Addr)) (op₂ : CmpOp) (Q : Bool → Locs → Led → Prop) (b : Value) (d : Value) (ls5 : Locs) (led5 : Led) : Prop := WP Γ gl cl ls5 led5 (compareOp op₂ b d) (KtCompare2 Γ gl cl Q)
abbrev KtCompare23 (Γ : Fm) (gl : List (Str × Value)) (cl : List (Str × Addr)) (r₂ : Expr) (op₂ : CmpOp) (Q : Bool → Locs → Led → Prop) (b : Value) (t : Bool) (ls4 : Locs) (led4 : Led) : Prop :=
      if t then WP Γ gl cl ls4 led4 (eval r₂ Γ.env) (KtCompare22 Γ gl cl op₂ Q b) else Q false ls4 led4
abbrev KtCompare24 (Γ : Fm) (gl : List (Str × Value)) (cl : List (Str × Addr)) (r₂ : Expr) (op₂ : CmpOp) (Q : Bool → Locs → Led → Prop) (b : Value) (c : Value) (ls3 : Locs) (led3 : Led) : Prop := WP Γ gl cl ls3 led3 (truthy c) (KtCompare23 Γ gl cl r₂ op₂ Q b)
abbrev KtCompare25 (Γ : Fm) (gl : List (Str × Value)) (cl : List (Str × Addr)) (r₂ : Expr) (op₁ : CmpOp) (op₂ : CmpOp) (Q : Bool → Locs → Led → Prop) (a : Value) (b : Value) (ls2 : Locs) (led2 : Led) : Prop := WP Γ gl cl ls2 led2 (compareOp op₁ a b) (KtCompare24 Γ gl cl r₂ op₂ Q b)
abbrev KtCompare26 (Γ : Fm) (gl : List (Str × Value)) (cl : List (Str × Addr)) (r₁ : Expr) (r₂ : Expr) (op₁ : CmpOp) (op₂ : CmpOp) (Q : Bool → Locs → Led → Prop) (a : Value) (ls1 : Locs) (led1 : Led) : Prop := WP Γ gl cl ls1 led1 (eval r₁ Γ.env) (KtCompare25 Γ gl cl r₂ op₁ op₂ Q a)
theorem w_tCompare2 {l r₁ r₂ : Expr} {op₁ op₂ : CmpOp} {pos : Pos} {whole : Sem Value} {Q : Bool → Locs → Led → Prop}
    (H : WP Γ gl cl ls led (eval l Γ.env) (KtCompare26 Γ gl cl r₁ r₂ op₁ op₂ Q))
    (hm : lastMarks [op₁, op₂] [r₁, r₂] = false := by with_unfolding_all rfl) :
    WP Γ gl cl ls led (isTrue (.Compare l [op₁, op₂] [r₁, r₂] pos) Γ.env whole) Q :=
  fun ok _ _ _ st => isTrue_chain (H.run ok st fun _ _ _ _ _ st1 H1 => test_link (H1.run ok st1 fun _ _ _ _ _ st2 H2 => H2.run ok st2 fun _ _ _ _ _ st3 H3 => H3.run ok st3 fun t _ _ _ _ st4 H4 => by
    cases t with
    | true =>
      simp only [if_true] at H4 ⊢
      exact test_last (H4.run ok st4 fun _ _ _ _ _ st5 H5 => H5.run ok st5 fun _ _ _ _ _ st6 H6 => H6 ok _ _ _ st6)
    | false =>
      simp only [Bool.false_eq_true, if_false] at H4 ⊢
      exact ⟨_, _, _, _, rfl, st4, H4⟩)) hm

abbrev KAnd (Γ : Fm) (gl : List (Str × Value)) (cl : List (Str × Addr)) (e₂ : Expr) (rest : List Expr) (pos : Pos) (Q : Value → Locs → Led → Prop) (v : Value) (c : Bool) (ls2 : Locs) (led2 : Led) : Prop := if c then WP Γ gl cl ls2 led2 (eval (.BoolOp .And (e₂ :: rest) pos) Γ.env) Q else Q v ls2 led2
abbrev KAnd2 (Γ : Fm) (gl : List (Str × Value)) (cl : List (Str × Addr)) (e₂ : Expr) (rest : List Expr) (pos : Pos) (Q : Value → Locs → Led → Prop) (v : Value) (ls1 : Locs) (led1 : Led) : Prop := WP Γ gl cl ls1 led1 (truthy v) (KAnd Γ gl cl e₂ rest pos Q v)
theorem w_And {e₁ e₂ : Expr} {rest : List Expr} {pos : Pos} {Q : Value → Locs → Led → Prop}
    (H : WP Γ gl cl ls led (eval e₁ Γ.env) (KAnd2 Γ gl cl e₂ rest pos Q)) :
    WP Γ gl cl ls led (eval (.BoolOp .And (e₁ :: e₂ :: rest) pos) Γ.env) Q :=
  fun ok _ _ _ st => BoolOp_and (H.run ok st fun _ _ _ _ _ st1 H1 => H1.run ok st1 fun c _ _ _ _ st2 H2 => by
    cases c with
    | true => simp only [if_true] at H2 ⊢; exact H2 ok _ _ _ st2
    | false => simp only [Bool.false_eq_true, if_false] at H2 ⊢; exact ⟨_, _, _, _, rfl, st2, H2⟩)
abbrev KOr (Γ : Fm) (gl : List (Str × Value)) (cl : List (Str × Addr)) (e₂ : Expr) (rest : List Expr) (pos : Pos) (Q : Value → Locs → Led → Prop) (v : Value) (c : Bool) (ls2 : Locs) (led2 : Led) : Prop := if c then Q v ls2 led2 else WP Γ gl cl ls2 led2 (eval (.BoolOp .Or (e₂ :: rest) pos) Γ.env) Q
abbrev KOr2 (Γ : Fm) (gl : List (Str × Value)) (cl : List (Str × Addr)) (e₂ : Expr) (rest : List Expr) (pos : Pos) (Q : Value → Locs → Led → Prop) (v : Value) (ls1 : Locs) (led1 : Led) : Prop := WP Γ gl cl ls1 led1 (truthy v) (KOr Γ gl cl e₂ rest pos Q v)
theorem w_Or {e₁ e₂ : Expr} {rest : List Expr} {pos : Pos} {Q : Value → Locs → Led → Prop}
    (H : WP Γ gl cl ls led (eval e₁ Γ.env) (KOr2 Γ gl cl e₂ rest pos Q)) :
    WP Γ gl cl ls led (eval (.BoolOp .Or (e₁ :: e₂ :: rest) pos) Γ.env) Q :=
  fun ok _ _ _ st => BoolOp_or (H.run ok st fun _ _ _ _ _ st1 H1 => H1.run ok st1 fun c _ _ _ _ st2 H2 => by
    cases c with
    | false => simp only [Bool.false_eq_true, if_false] at H2 ⊢; exact H2 ok _ _ _ st2
    | true => simp only [if_true] at H2 ⊢; exact ⟨_, _, _, _, rfl, st2, H2⟩)
theorem w_BoolOne {op : BoolOp} {e : Expr} {pos : Pos} {Q : Value → Locs → Led → Prop} (H : WP Γ gl cl ls led (eval e Γ.env) Q) : WP Γ gl cl ls led (eval (.BoolOp op [e] pos) Γ.env) Q :=
  fun ok _ _ _ st => BoolOp_one (H ok _ _ _ st)
abbrev KIfExp (Γ : Fm) (gl : List (Str × Value)) (cl : List (Str × Addr)) (body : Expr) (orelse : Expr) (Q : Value → Locs → Led → Prop) (b : Bool) (ls1 : Locs) (led1 : Led) : Prop := if b then WP Γ gl cl ls1 led1 (eval body Γ.env) Q else WP Γ gl cl ls1 led1 (eval orelse Γ.env) Q
theorem w_IfExp {test body orelse : Expr} {pos : Pos} {Q : Value → Locs → Led → Prop}
    (H : WP Γ gl cl ls led (isTrue test Γ.env (eval test Γ.env)) (KIfExp Γ gl cl body orelse Q)) :
    WP Γ gl cl ls led (eval (.IfExp test body orelse pos) Γ.env) Q :=
  fun ok _ _ _ st => wpAny_IfExp (H.run ok st fun b _ _ _ _ st1 H1 => by
    cases b with
    | true => simp only [if_true] at H1 ⊢; exact H1 ok _ _ _ st1
    | false => simp only [Bool.false_eq_true, if_false] at H1 ⊢; exact H1 ok _ _ _ st1)

abbrev KtNot (Γ : Fm) (gl : List (Str × Value)) (cl : List (Str × Addr)) (Q : Bool → Locs → Led → Prop) (b : Bool) (ls1 : Locs) (led1 : Led) : Prop := Q (!b) ls1 led1
theorem w_tNot {x : Expr} {pos : Pos} {whole : Sem Value} {Q : Bool → Locs → Led → Prop} (H : WP Γ gl cl ls led (isTrue x Γ.env (eval x Γ.env)) (KtNot Γ gl cl Q)) :
    WP Γ gl cl ls led (isTrue (.UnaryOp .Not x pos) Γ.env whole) Q :=
  fun ok _ _ _ st => wpAny_isTrue_Not (H.run ok st fun _ _ _ _ _ st1 H1 => ⟨_, _, _, _, rfl, st1, H1⟩)
abbrev KtValue (Γ : Fm) (gl : List (Str × Value)) (cl : List (Str × Addr)) (Q : Bool → Locs → Led → Prop) (v : Value) (ls1 : Locs) (led1 : Led) : Prop := WP Γ gl cl ls1 led1 (truthy v) Q
theorem w_tValue {e : Expr} {whole : Sem Value} {Q : Bool → Locs → Led → Prop} (H : WP Γ gl cl ls led whole (KtValue Γ gl cl Q))
    (he : isTrue e Γ.env whole = (do let v ← whole; standAt e.pos; holding [v] (truthy v)) := by rfl) : WP Γ gl cl ls led (isTrue e Γ.env whole) Q :=
  fun ok _ _ _ st => wpAny_isTrue_value (H.run ok st fun _ _ _ _ _ st1 H1 => H1 ok _ _ _ st1) he
theorem w_tBoolOp {op : BoolOp} {values : List Expr} {pos : Pos} {whole : Sem Value} {Q : Bool → Locs → Led → Prop} (H : WP Γ gl cl ls led (allTrue op values Γ.env) Q) : WP Γ gl cl ls led (isTrue (.BoolOp op values pos) Γ.env whole) Q :=
  fun ok _ _ _ st => wpAny_isTrue_BoolOp (H ok _ _ _ st)
abbrev KallAnd (Γ : Fm) (gl : List (Str × Value)) (cl : List (Str × Addr)) (rest : List Expr) (Q : Bool → Locs → Led → Prop) (b : Bool) (ls1 : Locs) (led1 : Led) : Prop := if b then WP Γ gl cl ls1 led1 (allTrue .And rest Γ.env) Q else Q false ls1 led1
theorem w_allAnd {x : Expr} {rest : List Expr} {Q : Bool → Locs → Led → Prop}
    (H : WP Γ gl cl ls led (isTrue x Γ.env (eval x Γ.env)) (KallAnd Γ gl cl rest Q)) : WP Γ gl cl ls led (allTrue .And (x :: rest) Γ.env) Q :=
  fun ok _ _ _ st => wpAny_allTrue_And_cons (H.run ok st fun b _ _ _ _ st1 H1 => by
    cases b with
    | true => simp only [if_true] at H1 ⊢; exact H1 ok _ _ _ st1
    | false => simp only [Bool.false_eq_true, if_false] at H1 ⊢; exact ⟨_, _, _, _, rfl, st1, H1⟩)
abbrev KallOr (Γ : Fm) (gl : List (Str × Value)) (cl : List (Str × Addr)) (rest : List Expr) (Q : Bool → Locs → Led → Prop) (b : Bool) (ls1 : Locs) (led1 : Led) : Prop := if b then Q true ls1 led1 else WP Γ gl cl ls1 led1 (allTrue .Or rest Γ.env) Q
theorem w_allOr {x : Expr} {rest : List Expr} {Q : Bool → Locs → Led → Prop}
    (H : WP Γ gl cl ls led (isTrue x Γ.env (eval x Γ.env)) (KallOr Γ gl cl rest Q)) : WP Γ gl cl ls led (allTrue .Or (x :: rest) Γ.env) Q :=
  fun ok _ _ _ st => wpAny_allTrue_Or_cons (H.run ok st fun b _ _ _ _ st1 H1 => by
    cases b with
    | false => simp only [Bool.false_eq_true, if_false] at H1 ⊢; exact H1 ok _ _ _ st1
    | true => simp only [if_true] at H1 ⊢; exact ⟨_, _, _, _, rfl, st1, H1⟩)
theorem w_allAndNil {Q : Bool → Locs → Led → Prop} (h : Q true ls led) : WP Γ gl cl ls led (allTrue .And [] Γ.env) Q := fun _ _ _ _ st => wpAny_allTrue_And_nil ⟨_, _, _, _, rfl, st, h⟩
theorem w_allOrNil {Q : Bool → Locs → Led → Prop} (h : Q false ls led) : WP Γ gl cl ls led (allTrue .Or [] Γ.env) Q := fun _ _ _ _ st => wpAny_allTrue_Or_nil ⟨_, _, _, _, rfl, st, h⟩

-- statements
theorem w_execs_nil {Q : Flow → Locs → Led → Prop} (h : Q .next ls led) : WP Γ gl cl ls led (execs [] Γ.env) Q := fun _ _ _ _ st => wpAny_execs_nil ⟨_, _, _, _, rfl, st, h⟩
def Seq (Γ : Fm) (gl : List (Str × Value)) (cl : List (Str × Addr)) (rest : List Stmt) (Q : Flow → Locs → Led → Prop) (f : Flow) (ls : Locs) (led : Led) : Prop := match f with
  | .next => WP Γ gl cl ls led (execs rest Γ.env) Q
  | f => Q f ls led
theorem w_execs_cons {st : Stmt} {rest : List Stmt} {Q : Flow → Locs → Led → Prop} (H : WP Γ gl cl ls led (exec st Γ.env) (Seq Γ gl cl rest Q)) : WP Γ gl cl ls led (execs (st :: rest) Γ.env) Q :=
  fun ok _ _ _ st => wpAny_execs_cons (H.run ok st fun f _ _ _ _ st1 H1 => by
    cases f with
    | next => exact H1 ok _ _ _ st1
    | brk | cont | ret => exact ⟨_, _, _, _, rfl, st1, H1⟩)
abbrev KIf (Γ : Fm) (gl : List (Str × Value)) (cl : List (Str × Addr)) (body : List Stmt) (orelse : List Stmt) (Q : Flow → Locs → Led → Prop) (b : Bool) (ls1 : Locs) (led1 : Led) : Prop := if b then WP Γ gl cl ls1 led1 (execs body Γ.env) Q else WP Γ gl cl ls1 led1 (execs orelse Γ.env) Q
theorem w_If {test : Expr} {body orelse : List Stmt} {pos : Pos} {Q : Flow → Locs → Led → Prop}
    (H : WP Γ gl cl ls led (isTrue test Γ.env (eval test Γ.env)) (KIf Γ gl cl body orelse Q)) :
    WP Γ gl cl ls led (exec (.If test body orelse pos) Γ.env) Q :=
  fun ok _ _ _ st => wpAny_If (H.run ok st fun b _ _ _ _ st1 H1 => by
    cases b with
    | true => simp only [if_true] at H1 ⊢; exact H1 ok _ _ _ st1
    | false => simp only [Bool.false_eq_true, if_false] at H1 ⊢; exact H1 ok _ _ _ st1)
abbrev KReturn (Γ : Fm) (gl : List (Str × Value)) (cl : List (Str × Addr)) (Q : Flow → Locs → Led → Prop) (v : Value) (ls1 : Locs) (led1 : Led) : Prop := Q (.ret v) ls1 led1
theorem w_Return {e : Expr} {pos : Pos} {Q : Flow → Locs → Led → Prop} (H : WP Γ gl cl ls led (eval e Γ.env) (KReturn Γ gl cl Q)) : WP Γ gl cl ls led (exec (.Return (some e) pos) Γ.env) Q :=
  fun ok _ _ _ st => wpAny_Return_some (H.run ok st fun _ _ _ _ _ st1 H1 => ⟨_, _, _, _, rfl, st1, H1⟩)
theorem w_Return0 {pos : Pos} {Q : Flow → Locs → Led → Prop} (h : Q (.ret .none) ls led) : WP Γ gl cl ls led (exec (.Return none pos) Γ.env) Q :=
  fun _ _ _ _ st => wpAny_Return_none ⟨_, _, _, _, rfl, st, h⟩
theorem w_Continue {pos : Pos} {Q : Flow → Locs → Led → Prop} (h : Q .cont ls led) : WP Γ gl cl ls led (exec (.Continue pos) Γ.env) Q :=
  fun _ _ _ _ st => wpAny_Continue ⟨_, _, _, _, rfl, st, h⟩

theorem interactive_fn {env : Env} (h : env.scope.kind = .function) : interactive env = false := by
  unfold interactive
  simp [h]
abbrev KExpr (Γ : Fm) (gl : List (Str × Value)) (cl : List (Str × Addr)) (Q : Flow → Locs → Led → Prop) (v : Value) (ls1 : Locs) (led1 : Led) : Prop := (∀ a, v ≠ .ref a) ∧ Q .next ls1 led1
theorem w_Expr {e : Expr} {pos : Pos} {Q : Flow → Locs → Led → Prop} (H : WP Γ gl cl ls led (eval e Γ.env) (KExpr Γ gl cl Q))
    (hs : swapsWith e none pos.line Γ.env = pure false := by rfl) : WP Γ gl cl ls led (exec (.Expr e pos) Γ.env) Q :=
  fun ok _ _ _ st => wpAny_Expr (H.run ok st fun v _ _ _ _ st1 H1 => by
    cases v <;> first | exact ⟨_, _, _, _, rfl, st1, H1.2⟩ | exact (H1.1 _ rfl)) (interactive_fn ok.kind) hs

/-- a local store -/
def putL1 (x : Str) (v : Value) : Locs → Locs
  | [] => []
  | (y, o) :: r => if x = y then (y, some v) :: r else (y, o) :: putL1 x v r
inductive Put (x : Str) (v : Value) : Locs → Locs → Prop
  | head {o : Option Value} {r : Locs} : Put x v ((x, o) :: r) ((x, some v) :: r)
  | tail {y : Str} {o : Option Value} {r r' : Locs} : (x == y) = false → Put x v r r' → Put x v ((y, o) :: r) ((y, o) :: r')
theorem Put.lookup {x : Str} {v : Value} {l l' : Locs} (p : Put x v l l') (y : Str) : l'.lookup y = if y = x then some (some v) else l.lookup y := by
  induction p with
  | @head o r =>
    rw [List.lookup_cons, List.lookup_cons]
    by_cases h : y = x
    · simp [h]
    · have : (y == x) = false := by simpa using h
      simp [this, h]
  | @tail z o r r' hz _ ih =>
    rw [List.lookup_cons, List.lookup_cons, ih]
    by_cases h : y = x
    · subst h
      have : (y == z) = false := hz
      simp [this]
    · simp [h]
theorem Put.known {x : Str} {v : Value} {l l' : Locs} (p : Put x v l l') : ∃ ov, l.lookup x = some ov := by
  induction p with
  | @head o r => exact ⟨o, by rw [List.lookup_cons]; simp⟩
  | @tail y o r r' hz _ ih =>
    obtain ⟨ov, e⟩ := ih
    exact ⟨ov, by rw [List.lookup_cons, hz]; exact e⟩

theorem w_store {x : Str} {v : Value} {ls' : Locs} {Q : Unit → Locs → Led → Prop} (hc : Γ.comp = none) (p : Put x v ls ls') (h : Q () ls' led) : WP Γ gl cl ls led (storeName Γ.env x v) Q :=
  fun ok _ _ _ st => by
    obtain ⟨ov, e⟩ := p.known
    have hk := (st.kind e).1
    obtain ⟨m, ex, F, N, nd, lk, lc⟩ := st
    rw [hc] at lc
    obtain ⟨rfl, hi⟩ := lc
    obtain ⟨e1, e2⟩ := ok.plain hc
    refine wpAny_storeName_local hk (e2 ▸ F.ns) (fun h' hn hs => ?_) (by rw [ok.kind]; rfl)
    rw [e2] at hn hs
    refine ⟨h', _, ls', led, rfl, ⟨_, [], F.set hn hs, N.set hs, nd, fun y ov' hy => ?_, ?_⟩, h⟩
    · rw [p.lookup] at hy
      by_cases q : y = x
      · subst q; exact lk _ _ e
      · rw [if_neg q] at hy; exact lk _ _ hy
    · rw [hc]
      refine ⟨rfl, fun y ov' hy => ?_⟩
      rw [p.lookup] at hy
      by_cases q : y = x
      · rw [if_pos q] at hy; cases hy; show (if y = x then some v else m y) = _; rw [if_pos q]
      · rw [if_neg q] at hy; show (if y = x then some v else m y) = _; rw [if_neg q]; exact hi _ _ hy

abbrev KAssign (Γ : Fm) (gl : List (Str × Value)) (cl : List (Str × Addr)) (Q : Flow → Locs → Led → Prop) (_x : Unit) (ls2 : Locs) (led2 : Led) : Prop := Q .next ls2 led2
abbrev KAssign2 (Γ : Fm) (gl : List (Str × Value)) (cl : List (Str × Addr)) (x : Str) (Q : Flow → Locs → Led → Prop) (v : Value) (ls1 : Locs) (led1 : Led) : Prop := WP Γ gl cl ls1 led1 (storeName Γ.env x v) (KAssign Γ gl cl Q)
theorem w_Assign {x : Str} {pos' pos : Pos} {value : Expr} {Q : Flow → Locs → Led → Prop} (H : WP Γ gl cl ls led (eval value Γ.env) (KAssign2 Γ gl cl x Q))
    (hs : swapsWith value (some (.Name x pos')) pos.line Γ.env = pure false := by rfl) : WP Γ gl cl ls led (exec (.Assign [.Name x pos'] value pos) Γ.env) Q :=
  fun ok _ _ _ st => wpAny_Assign_Name (H.run ok st fun _ _ _ _ _ st1 H1 => H1.run ok st1 fun _ _ _ _ _ st2 H2 => ⟨_, _, _, _, rfl, st2, H2⟩) hs

-- truth
theorem w_truthyB {b : Bool} {Q : Bool → Locs → Led → Prop} (h : Q b ls led) : WP Γ gl cl ls led (truthy (.bool b)) Q := fun _ _ _ _ st => wpAny_truthy_bool ⟨_, _, _, _, rfl, st, h⟩
end


def Fn (n : Nat) (f : Addr) (args : List Value) (fp : Led) (P : Value → Led → Prop) : Prop :=
  ∀ (Γ : Fm) (gl : List (Str × Value)) (cl : List (Str × Addr)) (ls : Locs), n ≤ Γ.room → Γ.Ok gl cl → ∀ (h : Heap) (tk : Nat) (tl : List Ent), St Γ h ls fp tl →
    codeAny (model pw Γ.w) Γ.A (.call (.ref f) ⟨args, []⟩) (fun r s' => ∃ v h' tk' led', r = .ok (.ret v) ∧ s' = ⟨h', Γ.gens, Γ.drawn, tk', Γ.os⟩ ∧ St Γ h' ls led' tl ∧ P v led') ⟨h, Γ.gens, Γ.drawn, tk, Γ.os⟩

section
variable {Γ : Fm} {gl : List (Str × Value)} {cl : List (Str × Addr)} {ls : Locs} {led : Led} {α β : Type}

theorem St.dropF {h : Heap} {tl : List Ent} {fp rest : Led} (st : St Γ h ls led tl) (p : led.flatten.Perm (fp.flatten ++ rest.flatten)) : St Γ h ls fp tl := by
  have q : (led.flatten ++ tl).Perm (fp.flatten ++ (rest.flatten ++ tl)) := by
    rw [← List.append_assoc]; exact List.Perm.append_right _ p
  obtain ⟨m, ex, F, N, nd, lc⟩ := st.perm q
  have hs : (fp.flatten ++ (ex ++ tl)).Sublist (fp.flatten ++ (ex ++ (rest.flatten ++ tl))) :=
    List.Sublist.append_left (List.Sublist.append_left (List.sublist_append_right _ _) _) _
  exact ⟨m, ex, F, fun x hx => N x (hs.subset hx), (hs.map _).nodup nd, lc⟩
theorem St.drop {h : Heap} {tl : List Ent} {fp rest : Led} (st : St Γ h ls led tl) (p : led.Perm (fp ++ rest)) : St Γ h ls fp tl := st.dropF (rest := rest) (by rw [← List.flatten_append]; exact p.flatten)

/-- a call of a def with a contract -/
theorem w_fn {n : Nat} {f : Addr} {args : List Value} {fp rest : Led} {P : Value → Led → Prop} {Q : Value → Locs → Led → Prop} (C : Fn n f args fp P) (hn : n ≤ Γ.room) (pk : Picks led fp rest)
    (k : ∀ v fp', P v fp' → Q v ls (fp' ++ rest)) : WP Γ gl cl ls led (call (.ref f) args) Q := fun ok h tk tl st => by
  have q : (led.flatten ++ tl).Perm (fp.flatten ++ (rest.flatten ++ tl)) := by
    rw [← List.append_assoc, ← List.flatten_append]; exact List.Perm.append_right _ pk.perm.flatten
  refine wpAny_call (codeAny_mono (C Γ gl cl ls hn ok h tk _ (st.perm q)) ?_)
  rintro r s' ⟨v, h', tk', led', rfl, rfl, st', hp⟩
  exact ⟨h', tk', ls, led' ++ rest, rfl, st'.perm (by rw [List.flatten_append, List.append_assoc]), k _ _ hp⟩

def LsOk (m : Str → Option Value) (names : List (Str × NameKind)) : Locs → Prop
  | [] => True
  | (x, ov) :: r => (m x = ov ∧ names.lookup x = some .local ∧ (x == ("__debug__" : Str)) = false) ∧ LsOk m names r
theorem LsOk.all {m : Str → Option Value} {names : List (Str × NameKind)} : ∀ {l : Locs}, LsOk m names l → ∀ x ov, l.lookup x = some ov → m x = ov ∧ names.lookup x = some .local ∧ (x == ("__debug__" : Str)) = false
  | [], _, _, _, h => by cases h
  | (y, o) :: r, ⟨h1, h2⟩, x, ov, h => by
    rw [List.lookup_cons] at h
    by_cases e : x = y
    · subst e; simp at h; subst h; exact h1
    · have : (x == y) = false := by simpa using e
      rw [this] at h
      exact h2.all x ov h
def GlOk (K : Frag) (names : List (Str × NameKind)) : List (Str × Value) → Prop
  | [] => True
  | (x, v) :: r => (names.lookup x = some .globalImplicit ∧ (x == ("__debug__" : Str)) = false ∧ (nsIn K mainGlobals x = some (some v) ∨ (nsIn K mainGlobals x = some none ∧ bootBuiltins x = some v ∧ x ≠ "__name__"))) ∧ GlOk K names r
theorem GlOk.all {K : Frag} {names : List (Str × NameKind)} : ∀ {l : List (Str × Value)}, GlOk K names l → ∀ x v, l.lookup x = some v →
    names.lookup x = some .globalImplicit ∧ (x == ("__debug__" : Str)) = false ∧ (nsIn K mainGlobals x = some (some v) ∨ (nsIn K mainGlobals x = some none ∧ bootBuiltins x = some v ∧ x ≠ "__name__"))
  | [], _, _, _, h => by cases h
  | (y, o) :: r, ⟨h1, h2⟩, x, ov, h => by
    rw [List.lookup_cons] at h
    by_cases e : x = y
    · subst e; simp at h; subst h; exact h1
    · have : (x == y) = false := by simpa using e
      rw [this] at h
      exact h2.all x ov h
def ClOk (names : List (Str × NameKind)) (cells : List (Str × Addr)) : Prop := ∀ x c, cells.lookup x = some c → (x == ("__debug__" : Str)) = false ∧ (x == ("__classdict__" : Str)) = false ∧ names.lookup x = some .cell

theorem fn_intro {n : Nat} {f : Addr} {args : List Value} {fp : Led} {P : Value → Led → Prop} {name qual : Str} {params : Arguments} {body body' : List Stmt} {scope : Scope} {dV kV doc pm cdv ct oc : Value} {an od : Option Addr} {osl : Array (Option Value)} {binds : List (Str × Value)}
    {gl' : List (Str × Value)} {ls0 : Locs}
    (ho : ∀ p, (hK p).lookup f = some ⟨oc, od, .func (fnOf name qual params body scope dV kV doc pm an cdv ct), osl⟩ := by kd_p) (hcd : ∀ p, codeIn (hK p) cdv qual = true := by kd_p) (hbd : body = body' := by (conv => lhs; whnf); try exact rfl)
    (hb : ∀ (s : Shared) p, (hK p).In s.heap → BindsTo s (fnOf name qual params body scope dV kV doc pm an cdv ct) ⟨args, []⟩ binds := by intro s9 p9 X9; first | exact BindsTo.of_eq rfl | exact binds_K X9 rfl (by k_dflt k_is) rfl rfl rfl) (hloc : ∀ y ∈ binds, scope.names.lookup y.1 = some .local := by exact locs rfl)
    (hcell : ∀ x ∈ scope.names, x.2 ≠ .cell := by decide) (hco : scope.isCoroutine = false := by exact rfl) (hgen : scope.isGenerator = false := by exact rfl) (hk : scope.kind = .function := by exact rfl)
    (hls : LsOk (fun y => binds.reverse.lookup y) scope.names ls0 := by kqd_all) (hgl : ∀ p, GlOk (hK p) scope.names gl' := by intro p9; kqd_in)
    (H : ∀ (Γ : Fm) (K : Flow → Locs → Led → Prop), n ≤ Γ.room + 1 → Γ.comp = none → (∀ v ls' led', Drop (P v) led' → K (.ret v) ls' led') → (∀ ls' led', Drop (P .none) led' → K .next ls' led') → WP Γ gl' [] ls0 fp (execs body' Γ.env) K) (hn : 1 ≤ n := by decide) : Fn n f args fp P := by
  subst hbd
  intro Γ gl cl ls hr ok h tk tl st
  obtain ⟨m, ex, F, N, nd, lc⟩ := st
  have hdp := ok.depth
  have hun := ok.units
  refine code_def ok.below F ok.kin N ok.top ok.frames ok.ffr ok.fkind (ho _) (hcd _) (by lia) (hb _ _ (ok.kin.keeps F.keep)) hloc ?_ hco hgen hk hcell
  intro g L' h₁ FG F' N' B' X' T'
  let Γ' : Fm := { Γ with A := Γ.A.deeper (envOf qual scope L' f cdv), env := envOf qual scope L' f cdv, fenv := envOf qual scope L' f cdv, outer := Γ.fenv :: Γ.outer, A₀ := Γ.A, h₀ := g, L := L', comp := none, room := Γ.room - 1 }
  have ok' : Γ'.Ok gl' [] := by
    refine ⟨B', X', T', ?_, rfl, hk, ok.hnd, ?_, ?_, hk, rfl, rfl, ?_, ?_, fun _ => ⟨rfl, rfl⟩⟩
    · show (Γ.A.frames.map _) = _; rw [ok.frames]; rfl
    · show Γ.A.depth + 1 + (Γ.room - 1) < recursionLimit; lia
    · show Γ.A.units + 3 + 10 * (Γ.room - 1 + 1) < cLine; lia
    · intro x v hx; exact (hgl _).all x v hx
    · intro x c hx; cases hx
  have st' : St Γ' h₁ ls0 fp (ex ++ tl) := by
    refine ⟨_, [], F', N', nd, fun x ov hx => ?_, rfl, fun x ov hx => ?_⟩
    · exact (hls.all x ov hx).2
    · exact (hls.all x ov hx).1
  refine wpAny_mono (H Γ' (fun fl _ led' => Drop (P (match fl with | .ret v => v | _ => .none)) led') (by show n ≤ Γ.room - 1 + 1; lia) rfl (fun _ _ _ h => h) (fun _ _ h => h) ok' h₁ _ _ st') ?_ (fun _ _ x => x.elim)
  rintro fl s' ⟨h', tk', ls', led', rfl, st2, fp', rest, pk, hp⟩
  obtain ⟨m', ex', F2, N2, nd2, lk2, lc2⟩ := st2.dropF pk
  have hex : ex' = [] := lc2.1
  subst hex
  exact leaveK_ F2 N2 fun F3 N3 => ⟨_, h', tk', fp', rfl, rfl, ⟨m, ex, F3, N3, nd2, lc⟩, hp⟩

theorem fn_introC {n : Nat} {f : Addr} {args : List Value} {fp : Led} {P : Value → Led → Prop} {name qual : Str} {params : Arguments} {body body' : List Stmt} {scope : Scope} {dV kV doc pm cdv ct oc : Value} {an od : Option Addr} {osl : Array (Option Value)} {binds : List (Str × Value)}
    {gl' : List (Str × Value)} {ls0 : Locs}
    (ho : ∀ p, (hK p).lookup f = some ⟨oc, od, .func (fnOf name qual params body scope dV kV doc pm an cdv ct), osl⟩ := by kd_p) (hcd : ∀ p, codeIn (hK p) cdv qual = true := by kd_p) (hbd : body = body' := by (conv => lhs; whnf); try exact rfl)
    (hb : ∀ (s : Shared) p, (hK p).In s.heap → BindsTo s (fnOf name qual params body scope dV kV doc pm an cdv ct) ⟨args, []⟩ binds := by intro s9 p9 X9; first | exact BindsTo.of_eq rfl | exact binds_K X9 rfl (by k_dflt k_is) rfl rfl rfl)
    (hkind : (binds.all fun y => scope.names.lookup y.1 == some .local || scope.names.lookup y.1 == some .cell) = true := by exact rfl) (hnd : ((cellsFrom 0 scope.names []).map (·.1)).Nodup := by decide)
    (hco : scope.isCoroutine = false := by exact rfl) (hgen : scope.isGenerator = false := by exact rfl) (hk : scope.kind = .function := by exact rfl)
    (hls : LsOk (bindL (fun x => scope.names.lookup x) binds fun _ => none) scope.names ls0 := by kqd_all) (hgl : ∀ p, GlOk (hK p) scope.names gl' := by intro p9; kqd_in) (hcl : ∀ k, ClOk scope.names (cellsFrom k scope.names []) := by intro k9; exact ClOk.of rfl)
    (H : ∀ (Γ : Fm) (K : Flow → Locs → Led → Prop) (k : Nat) (cells : List Ent), n ≤ Γ.room + 1 → Γ.comp = none → (∀ v ls' led', Drop (P v) led' → K (.ret v) ls' led') → (∀ ls' led', Drop (P .none) led' → K .next ls' led') → CellsAre (bindC (fun x => scope.names.lookup x) binds fun _ => none) (cellsFrom k scope.names []) cells →
      (∀ x c, (cellsFrom k scope.names []).lookup x = some c → Γ.env.kindOf x = some .cell) → WP Γ gl' (cellsFrom k scope.names []) ls0 (cells.map (fun e => [e]) ++ fp) (execs body' Γ.env) K) (hn : 1 ≤ n := by decide) : Fn n f args fp P := by
  subst hbd
  intro Γ gl cl ls hr ok h tk tl st
  obtain ⟨m, ex, F, N, nd, lc⟩ := st
  have hdp := ok.depth
  have hun := ok.units
  refine code_defC ok.below F ok.kin N ok.top ok.frames ok.ffr ok.fkind (ho _) (hcd _) (by lia) (hb _ _ (ok.kin.keeps F.keep)) hkind hnd ?_ hco hgen hk
  intro g L' h₁ tk₁ cells FG F' N' Y' B' X' T' l1
  let Γ' : Fm := { Γ with A := Γ.A.deeper (envOfC qual scope L' f cdv), env := envOfC qual scope L' f cdv, fenv := envOfC qual scope L' f cdv, outer := Γ.fenv :: Γ.outer, A₀ := Γ.A, h₀ := g, L := L', comp := none, room := Γ.room - 1 }
  have ok' : Γ'.Ok gl' (cellsFrom (L' + 1) scope.names []) := by
    refine ⟨B', X', T', ?_, rfl, hk, ok.hnd, ?_, ?_, hk, rfl, rfl, ?_, ?_, fun _ => ⟨rfl, rfl⟩⟩
    · show (Γ.A.frames.map _) = _; rw [ok.frames]; rfl
    · show Γ.A.depth + 1 + (Γ.room - 1) < recursionLimit; lia
    · show Γ.A.units + 3 + 10 * (Γ.room - 1 + 1) < cLine; lia
    · intro x v hx; exact (hgl _).all x v hx
    · intro x c hx
      obtain ⟨a1, a2, a3⟩ := hcl _ x c hx
      exact ⟨a1, a2, hx, .inl a3⟩
  have fl1 : ∀ (l : List Ent), (l.map (fun e => [e])).flatten = l := by
    intro l; induction l with
    | nil => rfl
    | cons a r ih => rw [List.map_cons, List.flatten_cons, ih]; rfl
  have cks : ∀ {cm : Str → Option Value} {cs : List (Str × Addr)} {ce : List Ent}, CellsAre cm cs ce → ce.map (·.1) = cs.map (·.2) := by
    intro cm cs ce x
    induction x with
    | nil => rfl
    | cons _ _ ih => simp only [List.map_cons, ih]
  have cge : ∀ (names : List (Str × NameKind)) (k : Nat) (acc : List (Str × Addr)), (∀ a ∈ acc.map (·.2), a < k) → (acc.map (·.2)).Nodup → L' < k → (∀ a ∈ acc.map (·.2), L' < a) → (∀ a ∈ (cellsFrom k names acc).map (·.2), L' < a) ∧ ((cellsFrom k names acc).map (·.2)).Nodup := by
    intro names
    induction names with
    | nil => intro k acc h1 h2 h3 h4; exact ⟨h4, h2⟩
    | cons q r ih =>
      obtain ⟨y, kd⟩ := q
      intro k acc h1 h2 h3 h4
      unfold cellsFrom
      by_cases hkd : (kd == .cell) = true
      · rw [if_pos hkd]
        refine ih _ _ (fun a ha => ?_) ?_ (Nat.lt_succ_of_lt h3) (fun a ha => ?_)
        · rcases List.mem_cons.mp ha with rfl | ha
          · exact Nat.lt_succ_self _
          · exact Nat.lt_succ_of_lt (h1 a ha)
        · rw [List.map_cons, List.nodup_cons]
          exact ⟨fun q => Nat.lt_irrefl _ (h1 _ q), h2⟩
        · rcases List.mem_cons.mp ha with rfl | ha
          · exact h3
          · exact h4 a ha
      · rw [if_neg hkd]; exact ih _ _ h1 h2 h3 h4
  obtain ⟨c1, c2⟩ := cge scope.names (L' + 1) [] (fun a (h : a ∈ ([] : List Nat)) => by cases h) List.nodup_nil (Nat.lt_succ_self _) (fun a (h : a ∈ ([] : List Nat)) => by cases h)
  have nd' : (((cells.map (fun e => [e]) ++ fp).flatten ++ (([] : List Ent) ++ (ex ++ tl))).map (fun p : Ent => p.1)).Nodup := by
    rw [List.flatten_append, fl1, List.append_assoc, List.nil_append, List.map_append, List.nodup_append]
    refine ⟨by rw [cks Y']; exact c2, nd, fun a ha b hb e => ?_⟩
    subst e
    rw [cks Y'] at ha
    obtain ⟨p, hp, rfl⟩ := List.mem_map.mp hb
    exact absurd (l1 p hp) (Nat.not_lt.mpr (Nat.le_of_lt (c1 _ ha)))
  have st' : St Γ' h₁ ls0 (cells.map (fun e => [e]) ++ fp) (ex ++ tl) := by
    refine ⟨_, [], F', ?_, nd', fun x ov hx => ?_, rfl, fun x ov hx => ?_⟩
    · rw [List.flatten_append, fl1, List.append_assoc]; exact N'
    · exact (hls.all x ov hx).2
    · exact (hls.all x ov hx).1
  refine wpAny_mono (H Γ' (fun fl _ led' => Drop (P (match fl with | .ret v => v | _ => .none)) led') (L' + 1) cells (by show n ≤ Γ.room - 1 + 1; lia) rfl (fun _ _ _ h => h) (fun _ _ h => h) Y' (fun x c hx => (hcl _ x c hx).2.2) ok' h₁ _ _ st') ?_ (fun _ _ x => x.elim)
  rintro fl s' ⟨h', tk', ls', led', rfl, st2, fp', rest, pk, hp⟩
  obtain ⟨m', ex', F2, N2, nd2, lk2, lc2⟩ := st2.dropF pk
  have hex : ex' = [] := lc2.1
  subst hex
  exact leaveK_ F2 N2 fun F3 N3 => ⟨_, h', tk', fp', rfl, rfl, ⟨m, ex, F3, N3, nd2, lc⟩, hp⟩
end

section
variable {Γ : Fm} {gl : List (Str × Value)} {cl : List (Str × Addr)} {ls : Locs} {led led' : Led} {α β : Type}

theorem St.change {h h' : Heap} {tl : List Ent} {a : Addr} {o o' : Obj} (st : St Γ h ls led tl) (r : Rep a o o' led led') (hs : Heap.SameBut a h h') (ho : h'.get? a = some o') : St Γ h' ls led' tl := by
  obtain ⟨m, ex, F, N, nd, lc⟩ := st
  obtain ⟨pre, post, e1, e2, n1, n2, nd'⟩ := r.updF nd
  rw [e1] at N
  have z := N (a, o) (List.mem_append_right _ (.head _))
  refine ⟨m, ex, F.change hs z.2.1 z.2.2, ?_, nd', lc⟩
  rw [e2]
  exact news_set N n1 n2 hs ho

theorem St.push {h : Heap} {tl : List Ent} (st : St Γ h ls led tl) (o : Obj) (hf : o.isFreed = false := by rfl) : St Γ (h.push o) ls ([(h.objs.size, o)] :: led) tl := by
  obtain ⟨m, ex, F, N, nd, lc⟩ := st
  refine ⟨m, ex, F.push o, N.push F o hf, ?_, lc⟩
  show ((h.objs.size :: ((led.flatten ++ (ex ++ tl)).map (·.1)))).Nodup
  rw [List.nodup_cons]
  refine ⟨fun q => ?_, nd⟩
  obtain ⟨p, hp, e⟩ := List.mem_map.mp q
  exact absurd (Heap.lt_size (N p hp).1) (by rw [e]; exact Nat.lt_irrefl _)

/-- the heap has grown: nothing that stood has turned -/
theorem St.grow {h h' : Heap} {tl : List Ent} (st : St Γ h ls led tl) (k : ∀ b o, h.get? b = some o → h'.get? b = some o) : St Γ h' ls led tl := by
  obtain ⟨m, ex, F, N, nd, lc⟩ := st
  exact ⟨m, ex, F.keeps k, N.grown k, nd, lc⟩
theorem St.lt {h : Heap} {tl : List Ent} (st : St Γ h ls led tl) {a : Addr} {o : Obj} (x : At a o led) : a < h.objs.size := Heap.lt_size (st.get x)

theorem w_isList {h : Heap} {tl : List Ent} (st : St Γ h ls led tl) {a : Addr} {its : Array Value} {n : Nat} (x : At a (listOf its n) led) : h.IsList a its := IsL.isList (n := n) (st.get x)

-- calls
theorem w_items_nil {pos : Pos} {Q : List Value → Locs → Led → Prop} (h : Q [] ls led) : WP Γ gl cl ls led (spliced (backTo pos (starEach [] Γ.env))) Q :=
  fun _ _ _ _ st => wpAny_items_nil ⟨_, _, _, _, rfl, st, h⟩
abbrev Kitems_cons (Γ : Fm) (gl : List (Str × Value)) (cl : List (Str × Addr)) (Q : List Value → Locs → Led → Prop) (v : Value) (vs : List Value) (ls2 : Locs) (led2 : Led) : Prop := Q (v :: vs) ls2 led2
abbrev Kitems_cons2 (Γ : Fm) (gl : List (Str × Value)) (cl : List (Str × Addr)) (pos : Pos) (rest : List Expr) (Q : List Value → Locs → Led → Prop) (v : Value) (ls1 : Locs) (led1 : Led) : Prop := WP Γ gl cl ls1 led1 (spliced (backTo pos (starEach rest Γ.env))) (Kitems_cons Γ gl cl Q v)
theorem w_items_cons {pos : Pos} {e : Expr} {rest : List Expr} {Q : List Value → Locs → Led → Prop}
    (H : WP Γ gl cl ls led (eval e Γ.env) (Kitems_cons2 Γ gl cl pos rest Q))
    (he : starEach (e :: rest) Γ.env = (false, eval e Γ.env) :: starEach rest Γ.env := by rfl) : WP Γ gl cl ls led (spliced (backTo pos (starEach (e :: rest) Γ.env))) Q :=
  fun ok _ _ _ st => wpAny_items_cons (H.run ok st fun _ _ _ _ _ st1 H1 => H1.run ok st1 fun _ _ _ _ _ st2 H2 => ⟨_, _, _, _, rfl, st2, H2⟩) he
abbrev KCallName (Γ : Fm) (gl : List (Str × Value)) (cl : List (Str × Addr)) (pos : Pos) (args : List Expr) (Q : Value → Locs → Led → Prop) (f : Value) (ls1 : Locs) (led1 : Led) : Prop := WP Γ gl cl ls1 led1 (callWith pos f [] (backTo pos (starEach args Γ.env)) []) Q
theorem w_CallName {x : Str} {p pos : Pos} {args : List Expr} {Q : Value → Locs → Led → Prop}
    (H : WP Γ gl cl ls led (eval (.Name x p) Γ.env) (KCallName Γ gl cl pos args Q)) : WP Γ gl cl ls led (eval (.Call (.Name x p) args [] pos) Γ.env) Q :=
  fun ok _ _ _ st => Call_Name rfl (H.run ok st fun _ _ _ _ _ st1 H1 => H1 ok _ _ _ st1)
abbrev KcallB (Γ : Fm) (gl : List (Str × Value)) (cl : List (Str × Addr)) (id : String) (Q : Value → Locs → Led → Prop) (vs : List Value) (ls1 : Locs) (led1 : Led) : Prop := WP Γ gl cl ls1 led1 (call (.builtin id) vs) Q
theorem w_callB {pos : Pos} {id : String} {e : Expr} {rest : List Expr} {Q : Value → Locs → Led → Prop}
    (H : WP Γ gl cl ls led (spliced (backTo pos (starEach (e :: rest) Γ.env))) (KcallB Γ gl cl id Q))
    (he : starEach (e :: rest) Γ.env = (false, eval e Γ.env) :: starEach rest Γ.env := by rfl) (hplain : (backTo pos (starEach rest Γ.env)).any (·.1) = false := by rfl) :
    WP Γ gl cl ls led (callWith pos (.builtin id) [] (backTo pos (starEach (e :: rest) Γ.env)) []) Q :=
  fun ok _ _ _ st => callWith_builtin1 (H.run ok st fun _ _ _ _ _ st1 H1 => H1 ok _ _ _ st1) he hplain
abbrev KcallT (Γ : Fm) (gl : List (Str × Value)) (cl : List (Str × Addr)) (T : String) (Q : Value → Locs → Led → Prop) (vs : List Value) (ls1 : Locs) (led1 : Led) : Prop := WP Γ gl cl ls1 led1 (call (.type T) vs) Q
theorem w_callT {pos : Pos} {T : String} {e : Expr} {rest : List Expr} {Q : Value → Locs → Led → Prop}
    (H : WP Γ gl cl ls led (spliced (backTo pos (starEach (e :: rest) Γ.env))) (KcallT Γ gl cl T Q))
    (he : starEach (e :: rest) Γ.env = (false, eval e Γ.env) :: starEach rest Γ.env := by rfl) (hplain : (backTo pos (starEach rest Γ.env)).any (·.1) = false := by rfl) :
    WP Γ gl cl ls led (callWith pos (.type T) [] (backTo pos (starEach (e :: rest) Γ.env)) []) Q :=
  fun ok _ _ _ st => callWith_type1 (H.run ok st fun _ _ _ _ _ st1 H1 => H1 ok _ _ _ st1) he hplain
abbrev KcallK (Γ : Fm) (gl : List (Str × Value)) (cl : List (Str × Addr)) (f : Addr) (first : List Value) (Q : Value → Locs → Led → Prop) (vs : List Value) (ls1 : Locs) (led1 : Led) : Prop := WP Γ gl cl ls1 led1 (call (.ref f) (first ++ vs)) Q
theorem w_callK {pos : Pos} {f : Addr} {first : List Value} {e : Expr} {rest : List Expr} {Q : Value → Locs → Led → Prop} (hk : ∀ p, keepIn (hK p) (.ref f) = true)
    (H : WP Γ gl cl ls led (spliced (backTo pos (starEach (e :: rest) Γ.env))) (KcallK Γ gl cl f first Q))
    (hplain : ((backTo pos (starEach (e :: rest) Γ.env)).any (·.1) || ([] : List (Option Str × Sem Value)).any (·.1.isNone)) = false := by rfl)
    (he : starEach (e :: rest) Γ.env = (false, eval e Γ.env) :: starEach rest Γ.env := by rfl) :
    WP Γ gl cl ls led (callWith pos (.ref f) first (backTo pos (starEach (e :: rest) Γ.env)) []) Q :=
  fun ok _ _ _ st => by
    refine callWith_of hplain (keeps_K (hk Γ.w.params)) ?_
    rw [he]
    rw [he] at H
    refine evalArgs_plain (H.run ok st fun _ _ _ _ _ st1 H1 => ⟨?_, H1 ok _ _ _ st1⟩)
    obtain ⟨m, ex, F, _⟩ := st1
    exact ok.kin.keeps F.keep
theorem w_callK0 {pos : Pos} {f : Addr} {first : List Value} {Q : Value → Locs → Led → Prop} (hk : ∀ p, keepIn (hK p) (.ref f) = true)
    (H : WP Γ gl cl ls led (call (.ref f) first) Q) : WP Γ gl cl ls led (callWith pos (.ref f) first (backTo pos (starEach [] Γ.env)) []) Q :=
  fun ok _ _ _ st => by
    refine callWith_of rfl (keeps_K (hk Γ.w.params)) (evalArgs_nil3 ⟨?_, ?_⟩)
    · obtain ⟨m, ex, F, _⟩ := st
      exact ok.kin.keeps F.keep
    · rw [List.append_nil]; exact H ok _ _ _ st
/-- a method's call: o.name(args) -/
abbrev KCallAttr (Γ : Fm) (gl : List (Str × Value)) (cl : List (Str × Addr)) (pos : Pos) (args : List Expr) (Q : Value → Locs → Led → Prop) (fx : Value × List Value) (ls2 : Locs) (led2 : Led) : Prop := WP Γ gl cl ls2 led2 (callWith pos fx.1 fx.2 (backTo pos (starEach args Γ.env)) []) Q
abbrev KCallAttr2 (Γ : Fm) (gl : List (Str × Value)) (cl : List (Str × Addr)) (nm : Str) (pos : Pos) (args : List Expr) (Q : Value → Locs → Led → Prop) (pl : Sem Bool) (ov : Value) (ls1 : Locs) (led1 : Led) : Prop := WP Γ gl cl ls1 led1 (getMethod ov nm pl) (KCallAttr Γ gl cl pos args Q)
theorem w_CallAttr {o : Expr} {nm : Str} {apos pos : Pos} {args : List Expr} {Q : Value → Locs → Led → Prop} {pl : Sem Bool}
    (H : WP Γ gl cl ls led (eval o Γ.env) (KCallAttr2 Γ gl cl nm pos args Q pl))
    (he : eval (.Call (.Attribute o nm apos) args [] pos) Γ.env = (do
      let ov ← eval o Γ.env
      standAt apos.atName
      let (f, first) ← holding [ov] (getMethod ov nm pl)
      callWith pos f first (backTo pos (starEach args Γ.env)) (backToKw pos (keywordEach [] Γ.env))) := by rfl) :
    WP Γ gl cl ls led (eval (.Call (.Attribute o nm apos) args [] pos) Γ.env) Q :=
  fun ok _ _ _ st => methodCall_KW (H.run ok st fun _ _ _ _ _ st1 H1 => H1.run ok st1 fun _ _ _ _ _ st2 H2 => H2 ok _ _ _ st2) he
abbrev KcallBm (Γ : Fm) (gl : List (Str × Value)) (cl : List (Str × Addr)) (id : String) (first : List Value) (Q : Value → Locs → Led → Prop) (vs : List Value) (ls1 : Locs) (led1 : Led) : Prop := WP Γ gl cl ls1 led1 (call (.builtin id) (first ++ vs)) Q
theorem w_callBm {pos : Pos} {id : String} {first : List Value} {e : Expr} {rest : List Expr} {Q : Value → Locs → Led → Prop}
    (H : WP Γ gl cl ls led (spliced (backTo pos (starEach (e :: rest) Γ.env))) (KcallBm Γ gl cl id first Q))
    (he : starEach (e :: rest) Γ.env = (false, eval e Γ.env) :: starEach rest Γ.env := by rfl) (hplain : (backTo pos (starEach rest Γ.env)).any (·.1) = false := by rfl) :
    WP Γ gl cl ls led (callWith pos (.builtin id) first (backTo pos (starEach (e :: rest) Γ.env)) []) Q :=
  fun ok _ _ _ st => by
    rw [he]
    rw [he] at H
    exact callWith_builtin (by show (false || (backTo pos (starEach rest Γ.env)).any (·.1)) = false; rw [hplain]; rfl) (evalArgs_plain (H.run ok st fun _ _ _ _ _ st1 H1 => H1 ok _ _ _ st1))
theorem w_callBm0 {pos : Pos} {id : String} {first : List Value} {Q : Value → Locs → Led → Prop}
    (H : WP Γ gl cl ls led (call (.builtin id) first) Q) : WP Γ gl cl ls led (callWith pos (.builtin id) first (backTo pos (starEach [] Γ.env)) []) Q :=
  fun ok _ _ _ st => callWith_builtin rfl (evalArgs_nil3 (by rw [List.append_nil]; exact H ok _ _ _ st))

-- displays
abbrev KTuple (Γ : Fm) (gl : List (Str × Value)) (cl : List (Str × Addr)) (Q : Value → Locs → Led → Prop) (vs : List Value) (ls1 : Locs) (led1 : Led) : Prop := WP Γ gl cl ls1 led1 (newTuple vs) Q
theorem w_Tuple {elts : List Expr} {k : Nat} {pos : Pos} {Q : Value → Locs → Led → Prop} (H : WP Γ gl cl ls led (spliced (backTo pos (starEach elts Γ.env))) (KTuple Γ gl cl Q)) :
    WP Γ gl cl ls led (eval (.Tuple elts k pos) Γ.env) Q := fun ok _ _ _ st => Tuple_ (H.run ok st fun _ _ _ _ _ st1 H1 => H1 ok _ _ _ st1)
abbrev KList (Γ : Fm) (gl : List (Str × Value)) (cl : List (Str × Addr)) (Q : Value → Locs → Led → Prop) (vs : List Value) (ls1 : Locs) (led1 : Led) : Prop := WP Γ gl cl ls1 led1 (newList vs) Q
theorem w_List {elts : List Expr} {pos : Pos} {Q : Value → Locs → Led → Prop} (H : WP Γ gl cl ls led (spliced (backTo pos (starEach elts Γ.env))) (KList Γ gl cl Q)) :
    WP Γ gl cl ls led (eval (.List elts pos) Γ.env) Q := fun ok _ _ _ st => List_ (H.run ok st fun _ _ _ _ _ st1 H1 => H1 ok _ _ _ st1)
abbrev tupO (vs : List Value) : Obj := { cls := .type "tuple", data := .seq vs.toArray }
theorem w_newTuple {vs : List Value} {Q : Value → Locs → Led → Prop} (hsz : vs.length ≤ 1000) (h : ∀ a, Q (.ref a) ls ([(a, tupO vs)] :: led)) : WP Γ gl cl ls led (newTuple vs) Q :=
  fun _ _ _ _ st => wpAny_newObj_type ⟨_, _, _, _, rfl, st.push _, h _⟩ (by show vs.toArray.size ≤ sizeLine; rw [List.size_toArray, sizeLine_eq]; lia)
theorem w_newList {vs : List Value} {Q : Value → Locs → Led → Prop} (hsz : vs.length ≤ 1000) (h : ∀ a, Q (.ref a) ls ([(a, listOf vs.toArray 0)] :: led)) : WP Γ gl cl ls led (newList vs) Q :=
  fun _ _ _ _ st => wpAny_newObj_type ⟨_, _, _, _, rfl, st.push _, h _⟩ (by show vs.toArray.size ≤ sizeLine; rw [List.size_toArray, sizeLine_eq]; lia)

-- ints
theorem w_add {a b : Int} {t u : Tok} {Q : Value → Locs → Led → Prop} (h : ∀ t, Q (.int (a + b) t) ls led) : WP Γ gl cl ls led (binaryOp .Add (.int a t) (.int b u)) Q := fun _ _ _ _ st => add_int ⟨_, _, _, _, rfl, st, h _⟩
theorem w_sub {a b : Int} {t u : Tok} {Q : Value → Locs → Led → Prop} (h : ∀ t, Q (.int (a - b) t) ls led) : WP Γ gl cl ls led (binaryOp .Sub (.int a t) (.int b u)) Q := fun _ _ _ _ st => sub_int ⟨_, _, _, _, rfl, st, h _⟩
theorem w_mod {a b : Int} {t u : Tok} {Q : Value → Locs → Led → Prop} (hb : b ≠ 0) (h : ∀ t, Q (.int (a.fmod b) t) ls led) : WP Γ gl cl ls led (binaryOp .Mod (.int a t) (.int b u)) Q := fun _ _ _ _ st => mod_int' hb ⟨_, _, _, _, rfl, st, h _⟩
theorem w_div {a b : Int} {t u : Tok} {Q : Value → Locs → Led → Prop} (hb : b ≠ 0) (hs : b.natAbs < 1073741824) (h : ∀ t, Q (.int (a.fdiv b) t) ls led) : WP Γ gl cl ls led (binaryOp .FloorDiv (.int a t) (.int b u)) Q := fun _ _ _ _ st => floordiv_int hb ⟨_, _, _, _, rfl, st, h _⟩ (hp := .inl (PyProof.noPylong_small hs))
theorem w_mul {a b : Int} {t u : Tok} {Q : Value → Locs → Led → Prop} (hm : IntMulOk a b) (h : ∀ t, Q (.int (a * b) t) ls led) : WP Γ gl cl ls led (binaryOp .Mult (.int a t) (.int b u)) Q := fun _ _ _ _ st => mul_int (hm := hm) ⟨_, _, _, _, rfl, st, h _⟩
theorem w_pow {a n : Int} {t u : Tok} {Q : Value → Locs → Led → Prop} (hn : 0 ≤ n) (hn2 : n ≤ 100) (h1 : -(2 ^ 64) < a) (h2 : a < 2 ^ 64) (h : ∀ t, Q (.int (a ^ n.toNat) t) ls led) : WP Γ gl cl ls led (binaryOp .Pow (.int a t) (.int n u)) Q :=
  fun _ _ _ _ st => by
    refine pow_int hn ?_ ⟨_, _, _, _, rfl, st, h _⟩
    have hb := intBits_le_64 h1 h2
    have : (Builtin.Int.intBits a : Int) ≤ 64 := by lia
    calc (Builtin.Int.intBits a : Int) * n ≤ 64 * 100 := Int.mul_le_mul this hn2 hn (by lia)
      _ ≤ 2 ^ 27 := by decide
theorem w_neg {a : Int} {t : Tok} {Q : Value → Locs → Led → Prop} (h : ∀ t, Q (.int (-a) t) ls led) : WP Γ gl cl ls led (unaryOp .USub (.int a t)) Q := fun _ _ _ _ st => neg_int ⟨_, _, _, _, rfl, st, h _⟩
theorem w_eq {a b : Int} {t u : Tok} {Q : Value → Locs → Led → Prop} (h : Q (.bool (decide (a = b))) ls led) : WP Γ gl cl ls led (compareOp .Eq (.int a t) (.int b u)) Q := fun _ _ _ _ st => eq_int ⟨_, _, _, _, rfl, st, h⟩
theorem w_ne {a b : Int} {t u : Tok} {Q : Value → Locs → Led → Prop} (h : Q (.bool (!decide (a = b))) ls led) : WP Γ gl cl ls led (compareOp .NotEq (.int a t) (.int b u)) Q := fun _ _ _ _ st => ne_int ⟨_, _, _, _, rfl, st, h⟩
theorem w_lt {a b : Int} {t u : Tok} {Q : Value → Locs → Led → Prop} (h : Q (.bool (decide (a < b))) ls led) : WP Γ gl cl ls led (compareOp .Lt (.int a t) (.int b u)) Q := fun _ _ _ _ st => lt_int ⟨_, _, _, _, rfl, st, h⟩
theorem w_le {a b : Int} {t u : Tok} {Q : Value → Locs → Led → Prop} (h : Q (.bool (decide (a ≤ b))) ls led) : WP Γ gl cl ls led (compareOp .LtE (.int a t) (.int b u)) Q := fun _ _ _ _ st => le_int ⟨_, _, _, _, rfl, st, h⟩
theorem w_gt {a b : Int} {t u : Tok} {Q : Value → Locs → Led → Prop} (h : Q (.bool (decide (b < a))) ls led) : WP Γ gl cl ls led (compareOp .Gt (.int a t) (.int b u)) Q := fun _ _ _ _ st => gt_int ⟨_, _, _, _, rfl, st, h⟩
theorem w_ge {a b : Int} {t u : Tok} {Q : Value → Locs → Led → Prop} (h : Q (.bool (decide (b ≤ a))) ls led) : WP Γ gl cl ls led (compareOp .GtE (.int a t) (.int b u)) Q := fun _ _ _ _ st => ge_int ⟨_, _, _, _, rfl, st, h⟩
theorem w_truthyI {a : Int} {t : Tok} {Q : Bool → Locs → Led → Prop} (h : Q (a != 0) ls led) : WP Γ gl cl ls led (truthy (.int a t)) Q := fun _ _ _ _ st => truthy_int ⟨_, _, _, _, rfl, st, h⟩
theorem w_isNone {v : Value} {Q : Value → Locs → Led → Prop} (h : Q (.bool (v == .none)) ls led) : WP Γ gl cl ls led (compareOp .Is v .none) Q := fun _ _ _ _ st => is_none ⟨_, _, _, _, rfl, st, h⟩
theorem w_isNotNone {v : Value} {Q : Value → Locs → Led → Prop} (h : Q (.bool (!(v == .none))) ls led) : WP Γ gl cl ls led (compareOp .IsNot v .none) Q := fun _ _ _ _ st => isNot_none ⟨_, _, _, _, rfl, st, h⟩
theorem w_not {b : Bool} {Q : Value → Locs → Led → Prop} (h : Q (.bool (!b)) ls led) : WP Γ gl cl ls led (unaryOp .Not (.bool b)) Q := fun _ _ _ _ st => not_value (wpAny_truthy_bool ⟨_, _, _, _, rfl, st, h⟩)

-- subscripts of lists and tuples at an int
abbrev KSubscript (Γ : Fm) (gl : List (Str × Value)) (cl : List (Str × Addr)) (v : Expr) (i : Expr) (Q : Value → Locs → Led → Prop) (a : Value) (b : Value) (ls2 : Locs) (led2 : Led) : Prop := WP Γ gl cl ls2 led2 (subscriptTail v i a b) Q
abbrev KSubscript2 (Γ : Fm) (gl : List (Str × Value)) (cl : List (Str × Addr)) (v : Expr) (i : Expr) (Q : Value → Locs → Led → Prop) (a : Value) (ls1 : Locs) (led1 : Led) : Prop := WP Γ gl cl ls1 led1 (eval i Γ.env) (KSubscript Γ gl cl v i Q a)
theorem w_Subscript {v i : Expr} {pos : Pos} {Q : Value → Locs → Led → Prop}
    (H : WP Γ gl cl ls led (eval v Γ.env) (KSubscript2 Γ gl cl v i Q)) : WP Γ gl cl ls led (eval (.Subscript v i pos) Γ.env) Q :=
  fun ok _ _ _ st => Subscript_ (H.run ok st fun _ _ _ _ _ st1 H1 => H1.run ok st1 fun _ _ _ _ _ st2 H2 => H2 ok _ _ _ st2)
theorem w_subL {value slice : PySem.Expr} {l : Addr} {vs : List Value} {n : Nat} {k : Int} {u : Tok} {v : Value} {Q : Value → Locs → Led → Prop} (a : At l (listOf vs.toArray n) led) (h0 : 0 ≤ k) (hhi : k < 2 ^ 63) (hx : vs[k.toNat]? = some v) (h : Q v ls led)
    (hs : subscripted slice false (.ref l) (.int k u) = operate [.ref l, .int k u] (getItem (.ref l) (.int k u)) := by with_unfolding_all rfl) :
    WP Γ gl cl ls led (subscriptTail value slice (.ref l) (.int k u)) Q := fun _ _ _ _ st => item_litK (w_isList st a) h0 hhi hx ⟨_, _, _, _, rfl, st, h⟩ hs
theorem isTup_of {h : Heap} {a : Addr} {vs : List Value} {n : Nat} {cl : Value} {d : Option Addr} {sl : Array (Option Value)} (e : h.get? a = some ⟨.type "tuple", d, .seq vs.toArray n, sl⟩) : IsTup h a vs.toArray := ⟨_, e, rfl, n, rfl⟩
theorem w_subT {value slice : PySem.Expr} {l : Addr} {vs : List Value} {k : Int} {u : Tok} {v : Value} {Q : Value → Locs → Led → Prop} (a : At l (tupO vs) led) (h0 : 0 ≤ k) (hhi : k < 2 ^ 63) (hx : vs[k.toNat]? = some v) (h : Q v ls led)
    (hs : subscripted slice false (.ref l) (.int k u) = operate [.ref l, .int k u] (getItem (.ref l) (.int k u)) := by with_unfolding_all rfl) :
    WP Γ gl cl ls led (subscriptTail value slice (.ref l) (.int k u)) Q := fun _ _ _ _ st => by
  have hlt : k.toNat < vs.length := (List.getElem?_eq_some_iff.mp hx).1
  refine item_tupleT (j := k.toNat) (isTup_of (cl := .none) (st.get a)) (by lia) hhi ?_ hx ⟨_, _, _, _, rfl, st, h⟩ hs
  unfold seqIndex?
  simp [h0]
  lia

abbrev KAssignSub (Γ : Fm) (gl : List (Str × Value)) (cl : List (Str × Addr)) (Q : Flow → Locs → Led → Prop) (_x : Unit) (ls4 : Locs) (led4 : Led) : Prop := Q .next ls4 led4
abbrev KAssignSub2 (Γ : Fm) (gl : List (Str × Value)) (cl : List (Str × Addr)) (Q : Flow → Locs → Led → Prop) (v : Value) (ov : Value) (iv : Value) (ls3 : Locs) (led3 : Led) : Prop := WP Γ gl cl ls3 led3 (setItem ov iv v) (KAssignSub Γ gl cl Q)
abbrev KAssignSub3 (Γ : Fm) (gl : List (Str × Value)) (cl : List (Str × Addr)) (i : Expr) (Q : Flow → Locs → Led → Prop) (v : Value) (ov : Value) (ls2 : Locs) (led2 : Led) : Prop := WP Γ gl cl ls2 led2 (eval i Γ.env) (KAssignSub2 Γ gl cl Q v ov)
abbrev KAssignSub4 (Γ : Fm) (gl : List (Str × Value)) (cl : List (Str × Addr)) (o : Expr) (i : Expr) (Q : Flow → Locs → Led → Prop) (v : Value) (ls1 : Locs) (led1 : Led) : Prop := WP Γ gl cl ls1 led1 (eval o Γ.env) (KAssignSub3 Γ gl cl i Q v)
theorem w_AssignSub {o i value : Expr} {pos' pos : Pos} {Q : Flow → Locs → Led → Prop}
    (H : WP Γ gl cl ls led (eval value Γ.env) (KAssignSub4 Γ gl cl o i Q))
    (hs : swapsWith value (some (.Subscript o i pos')) pos.line Γ.env = pure false := by rfl) : WP Γ gl cl ls led (exec (.Assign [.Subscript o i pos'] value pos) Γ.env) Q :=
  fun ok _ _ _ st => wpAny_Assign_Subscript (H.run ok st fun _ _ _ _ _ st1 H1 => H1.run ok st1 fun _ _ _ _ _ st2 H2 => H2.run ok st2 fun _ _ _ _ _ st3 H3 => H3.run ok st3 fun _ _ _ _ _ st4 H4 => ⟨_, _, _, _, rfl, st4, H4⟩) hs
theorem w_setL {vs : List Value} {n : Nat} {D : Addr} {k : Int} {t : Tok} {v : Value} {Q : Unit → Locs → Led → Prop} (r : Rep D (listOf vs.toArray n) (listOf (vs.set k.toNat v).toArray n) led led') (h0 : 0 ≤ k) (hfit : k < 2 ^ 63) (h1 : k.toNat < vs.length)
    (h : Q () ls led') : WP Γ gl cl ls led (setItem (.ref D) (.int k t) v) Q := fun _ _ _ _ st => by
  have hs : vs.toArray.size = vs.length := List.size_toArray ..
  have z := st.get r.at
  refine ki_setAt z h0 hfit (by lia) ⟨_, _, ls, led', rfl, st.change r (Heap.SameBut.update ..) ?_, h⟩
  have q := PySem.IsL.update z (fun xs => xs.setIfInBounds k.toNat v)
  have e : vs.toArray.setIfInBounds k.toNat v = (vs.set k.toNat v).toArray := by
    apply Array.toList_inj.mp
    simp
  rw [e] at q
  have e2 : ((vs.set k.toNat v).toArray.size == vs.toArray.size) = true := by simp
  rw [e2] at q
  exact q

theorem seq_next {rest : List Stmt} {Q : Flow → Locs → Led → Prop} (H : WP Γ gl cl ls led (execs rest Γ.env) Q) : Seq Γ gl cl rest Q .next ls led := H
theorem seq_ret {rest : List Stmt} {v : Value} {Q : Flow → Locs → Led → Prop} (H : Q (.ret v) ls led) : Seq Γ gl cl rest Q (.ret v) ls led := H
theorem seq_cont {rest : List Stmt} {Q : Flow → Locs → Led → Prop} (H : Q .cont ls led) : Seq Γ gl cl rest Q .cont ls led := H
end
theorem ite_D {p : Prop} [Decidable p] {P R : Prop} (ht : p → P) (hf : ¬ p → R) : if decide p = true then P else R := by
  by_cases h : p
  · simp only [h, decide_true, if_true]; exact ht h
  · simp only [h, decide_false, Bool.false_eq_true, if_false]; exact hf h
theorem ite_N {p : Prop} [Decidable p] {P R : Prop} (ht : ¬ p → P) (hf : p → R) : if (!decide p) = true then P else R := by
  by_cases h : p
  · simp only [h, decide_true, Bool.not_true, Bool.false_eq_true, if_false]; exact hf h
  · simp only [h, decide_false, Bool.not_false, if_true]; exact ht h
theorem ite_T {P R : Prop} (ht : P) : if true = true then P else R := by simpa using ht
theorem ite_F {P R : Prop} (hf : R) : if false = true then P else R := by simpa using hf

section
variable {Γ : Fm} {gl : List (Str × Value)} {cl : List (Str × Addr)} {ls : Locs} {led led' : Led} {α β : Type}

theorem St.swapIn {h : Heap} {tl c : List Ent} (st : St Γ h ls (c :: led) tl) : St Γ h ls led (c ++ tl) := st.perm (by
  rw [List.flatten_cons, List.append_assoc, ← List.append_assoc (List.flatten led)]
  rw [← List.append_assoc]
  exact List.Perm.append_right _ List.perm_append_comm)
theorem St.swapOut {h : Heap} {tl c : List Ent} (st : St Γ h ls led (c ++ tl)) : St Γ h ls (c :: led) tl := st.perm (by
  rw [List.flatten_cons, List.append_assoc, ← List.append_assoc (List.flatten led)]
  rw [← List.append_assoc]
  exact List.Perm.append_right _ List.perm_append_comm)

/-- all but one of the ledger's objects stand as they stood: that one is given up -/
theorem St.lose {h h' : Heap} {tl : List Ent} {a : Addr} {o : Obj} (st : St Γ h ls ([(a, o)] :: led) tl) (k : ∀ b x, b ≠ a → h.get? b = some x → h'.get? b = some x) : St Γ h' ls led tl := by
  obtain ⟨m, ex, F, N, nd, lc⟩ := st
  have z := N (a, o) (.head _)
  have nd2 : (((a, o) :: (led.flatten ++ (ex ++ tl))).map (·.1)).Nodup := nd
  rw [List.map_cons, List.nodup_cons] at nd2
  refine ⟨m, ex, ⟨F.ns.at' fun x e => k _ _ (fun q => z.2.1 q.symm) e, fun b x e => k b x (fun q => ?_) (F.keep b x e), F.above⟩, fun p hp => ?_, nd2.2, lc⟩
  · have := z.2.2; rw [← q, e] at this; cases this
  · have y := N p (.tail _ hp)
    exact ⟨k _ _ (fun q => nd2.1 (List.mem_map.mpr ⟨p, hp, q⟩)) y.1, y.2⟩

structure Wk (Γ : Fm) (gl : List (Str × Value)) (cl : List (Str × Addr)) (it : Value) (n : Nat) (P : Nat → Value → Prop) (its : Nat → List Ent → Prop) (keep : Led → Prop) : Prop where
  item : ∀ i c led ls, i < n → its i c → keep led → WP Γ gl cl ls (c :: led) (pyNext it) (fun r ls' led' => ∃ v c', r = some v ∧ P i v ∧ its (i + 1) c' ∧ led' = c' :: led ∧ ls' = ls)
  done : ∀ c led ls, its n c → keep led → WP Γ gl cl ls (c :: led) (pyNext it) (fun r ls' led' => r = none ∧ led' = led ∧ ls' = ls)
  self : ∀ i c led ls, its i c → keep led → WP Γ gl cl ls (c :: led) (pyIter it) (fun r ls' led' => r = it ∧ led' = c :: led ∧ ls' = ls)

def IterOf (Γ : Fm) (gl : List (Str × Value)) (cl : List (Str × Addr)) (ls : Locs) (led : Led) (xv : Value) (n : Nat) (P : Nat → Value → Prop) (keep : Led → Prop) : Prop :=
  WP Γ gl cl ls led (pyIter xv) (fun it ls' led' => ls' = ls ∧ ∃ its c, led' = c :: led ∧ its 0 c ∧ Wk Γ gl cl it n P its keep)

section
variable {it : Value} {n : Nat} {P : Nat → Value → Prop} {its : Nat → List Ent → Prop} {kp : Led → Prop} {i : Nat} {c : List Ent} {h : Heap} {tk : Nat} {tl : List Ent} {E : Value → Shared → Prop}
theorem Wk.itemGo (W : Wk Γ gl cl it n P its kp) (hi : i < n) (hc : its i c) (hk : kp led) (ok : Γ.Ok gl cl) (st : St Γ h ls (c :: led) tl) {R : Option Value → Shared → Prop}
    (k : ∀ v h' tk' c', P i v → its (i + 1) c' → St Γ h' ls (c' :: led) tl → R (some v) ⟨h', Γ.gens, Γ.drawn, tk', Γ.os⟩) : wpAny (model pw Γ.w) Γ.A (pyNext it) R E ⟨h, Γ.gens, Γ.drawn, tk, Γ.os⟩ :=
  (W.item i c led ls hi hc hk).go ok st (by rintro r h2 tk2 ls2 led2 st2 ⟨v, c2, rfl, hP, hc2, rfl, rfl⟩; exact k v h2 tk2 c2 hP hc2 st2)
theorem Wk.doneGo (W : Wk Γ gl cl it n P its kp) (hc : its n c) (hk : kp led) (ok : Γ.Ok gl cl) (st : St Γ h ls (c :: led) tl) {R : Option Value → Shared → Prop}
    (k : ∀ h' tk', St Γ h' ls led tl → R none ⟨h', Γ.gens, Γ.drawn, tk', Γ.os⟩) : wpAny (model pw Γ.w) Γ.A (pyNext it) R E ⟨h, Γ.gens, Γ.drawn, tk, Γ.os⟩ :=
  (W.done c led ls hc hk).go ok st (by rintro r h2 tk2 ls2 led2 st2 ⟨rfl, rfl, rfl⟩; exact k h2 tk2 st2)
theorem Wk.selfGo (W : Wk Γ gl cl it n P its kp) (hc : its i c) (hk : kp led) (ok : Γ.Ok gl cl) (st : St Γ h ls (c :: led) tl) {R : Value → Shared → Prop}
    (k : ∀ h' tk', St Γ h' ls (c :: led) tl → R it ⟨h', Γ.gens, Γ.drawn, tk', Γ.os⟩) : wpAny (model pw Γ.w) Γ.A (pyIter it) R E ⟨h, Γ.gens, Γ.drawn, tk, Γ.os⟩ :=
  (W.self i c led ls hc hk).go ok st (by rintro r h2 tk2 ls2 led2 st2 ⟨rfl, rfl, rfl⟩; exact k h2 tk2 st2)
end
theorem St.pull {h : Heap} {tl : List Ent} {e : Ent} (st : St Γ h ls led (e :: tl)) : St Γ h ls ([e] :: led) tl := st.perm List.perm_middle
theorem St.put {h : Heap} {tl : List Ent} {e : Ent} (st : St Γ h ls ([e] :: led) tl) : St Γ h ls led (e :: tl) := st.perm List.perm_middle.symm
theorem St.pull2 {h : Heap} {tl : List Ent} {e f : Ent} (st : St Γ h ls led (e :: f :: tl)) : St Γ h ls ([e] :: [f] :: led) tl := st.perm (List.perm_middle.trans (.cons _ List.perm_middle))
theorem St.put2 {h : Heap} {tl : List Ent} {e f : Ent} (st : St Γ h ls ([e] :: [f] :: led) tl) : St Γ h ls led (e :: f :: tl) := st.perm (List.perm_middle.trans (.cons _ List.perm_middle)).symm
theorem lk_one {x : Str} {ov : Option Value} {G : Prop} (z : Str) (oz : Option Value) (h : List.lookup z [(x, ov)] = some oz) (k : z = x → ov = oz → G) : G := by
  rw [List.lookup_cons] at h
  by_cases q : z = x
  · subst q; simp at h; exact k rfl h
  · have e : (z == x) = false := by simpa using q
    rw [e] at h; cases h
theorem lk_two {x r : Str} {ov ow : Option Value} {G : Prop} (z : Str) (oz : Option Value) (h : List.lookup z [(x, ov), (r, ow)] = some oz) (k : z = x → ov = oz → G) (k2 : z = r → ow = oz → G) : G := by
  rw [List.lookup_cons] at h
  by_cases q : z = x
  · subst q; simp at h; exact k rfl h
  · have e : (z == x) = false := by simpa using q
    rw [e] at h; exact lk_one z oz h k2
theorem w_assignName {x : Str} {p : Pos} {v : Value} {Q : Unit → Locs → Led → Prop} (H : WP Γ gl cl ls led (storeName Γ.env x v) Q) : WP Γ gl cl ls led (assign (.Name x p) Γ.env v) Q :=
  fun ok _ _ _ st => wpAny_assign_Name (H ok _ _ _ st)

/-- a while by an invariant and a measure -/
theorem w_while {test : Expr} {body : List Stmt} {pos : Pos} {Q : Flow → Locs → Led → Prop} (I : Nat → Locs → Led → Prop) (n₀ : Nat) (h0 : I n₀ ls led)
    (step : ∀ n ls led, I n ls led → WP Γ gl cl ls led (isTrue test Γ.env (eval test Γ.env)) (fun b ls1 led1 => if b then WP Γ gl cl ls1 led1 (execs body Γ.env) (fun f ls2 led2 => match f with
        | .next | .cont => ∃ m, m < n ∧ I m ls2 led2
        | .brk => Q .next ls2 led2
        | .ret r => Q (.ret r) ls2 led2) else Q .next ls1 led1)) : WP Γ gl cl ls led (exec (.While test body [] pos) Γ.env) Q := fun ok h tk tl st => by
  refine wpAny_While (codeAny_whileLoop (fun k s' => ∃ h' tk' ls' led', s' = ⟨h', Γ.gens, Γ.drawn, tk', Γ.os⟩ ∧ St Γ h' ls' led' tl ∧ I k ls' led') ?_ n₀ ⟨h, tk, ls, led, rfl, st, h0⟩)
  rintro k s' ⟨h', tk', ls', led', rfl, st', hI'⟩
  refine wpAny_mono ((step k ls' led' hI').run ok st' (P := fun b s2 => ∃ h1 tk1 ls1 led1, s2 = ⟨h1, Γ.gens, Γ.drawn, tk1, Γ.os⟩ ∧ St Γ h1 ls1 led1 tl ∧ if b then WP Γ gl cl ls1 led1 (execs body Γ.env) (fun f ls2 led2 => match f with
        | .next | .cont => ∃ m, m < k ∧ I m ls2 led2
        | .brk => Q .next ls2 led2
        | .ret r => Q (.ret r) ls2 led2) else Q .next ls1 led1) (fun b h1 tk1 ls1 led1 st1 q => ⟨h1, tk1, ls1, led1, rfl, st1, q⟩)) ?_ (fun _ _ x => x.elim)
  rintro b s2 ⟨h1, tk1, ls1, led1, rfl, st1, q⟩
  cases b with
  | false =>
    simp only [Bool.false_eq_true, if_false] at q ⊢
    exact wpAny_execs_nil ⟨h1, tk1, ls1, led1, rfl, st1, q⟩
  | true =>
    simp only [if_true] at q ⊢
    refine wpAny_mono (q.run ok st1 (P := fun f s => match f with
          | .next | .cont => ∃ m, m < k ∧ ∃ h' tk' ls' led', s = ⟨h', Γ.gens, Γ.drawn, tk', Γ.os⟩ ∧ St Γ h' ls' led' tl ∧ I m ls' led'
          | .brk => Post Γ Q tl .next s
          | .ret r => Post Γ Q tl (.ret r) s) ?_) (fun _ _ x => x) (fun _ _ x => x.elim)
    intro f h5 tk5 ls5 led5 st5 hq
    cases f with
    | next => obtain ⟨m, hm, hI⟩ := hq; exact ⟨m, hm, h5, tk5, ls5, led5, rfl, st5, hI⟩
    | cont => obtain ⟨m, hm, hI⟩ := hq; exact ⟨m, hm, h5, tk5, ls5, led5, rfl, st5, hI⟩
    | brk => exact ⟨h5, tk5, ls5, led5, rfl, st5, hq⟩
    | ret r => exact ⟨h5, tk5, ls5, led5, rfl, st5, hq⟩

-- what a loop may go over
theorem iter_list {l : Addr} {vs : List Value} {n : Nat} (a : At l (listOf vs.toArray n) led) : IterOf Γ gl cl ls led (.ref l) vs.length (fun i v => vs[i]? = some v) (fun led => At l (listOf vs.toArray n) led) := fun ok h tk tl st => by
  refine wpAny_pyIter_list (w_isList st a) ⟨_, _, ls, _, rfl, st.push _, rfl, (fun (i : Nat) (c : List Ent) => ∃ o : Obj, c = [(h.objs.size, o)] ∧ ∀ h' : Heap, h'.get? h.objs.size = some o → h'.IsListIter h.objs.size l i), _, rfl, ⟨_, rfl, fun h' e => ⟨_, e, rfl, rfl⟩⟩, ?_⟩
  refine ⟨?_, ?_, fun i c led2 ls2 ⟨o, e, ho⟩ ka ok2 h2 tk2 tl2 st2 => by subst e; exact wpAny_pyIter_listiter (ho _ (st2.get (.head (.head _)))) ⟨_, _, _, _, rfl, st2, rfl, rfl, rfl⟩⟩
  · rintro i c led2 ls2 hi ⟨o, rfl, ho⟩ ka ok2 h2 tk2 tl2 st2
    have hit := ho _ (st2.get (.head (.head _)))
    refine wpAny_pyNext_list_item (x := vs[i]) hit (w_isList st2 (.tail ka)) (by simp [hi]) fun h3 hit3 hs3 => ?_
    obtain ⟨o3, e3, c3, d3⟩ := hit3
    exact ⟨h3, _, ls2, [(h.objs.size, o3)] :: led2, rfl, st2.change .head hs3 e3, vs[i], _, rfl, by simp [hi], ⟨o3, rfl, fun h' e => ⟨_, e, c3, d3⟩⟩, rfl, rfl⟩
  · rintro c led2 ls2 ⟨o, rfl, ho⟩ ka ok2 h2 tk2 tl2 st2
    have hit := ho _ (st2.get (.head (.head _)))
    exact wpAny_pyNext_list_end ok2.hnd hit (w_isList st2 (.tail ka)) (by simp) fun h3 hs3 => ⟨h3, _, ls2, led2, rfl, st2.lose hs3, rfl, rfl, rfl⟩

theorem w_isTuple {h : Heap} {tl : List Ent} (st : St Γ h ls led tl) {a : Addr} {its : List Value} (x : At a (tupO its) led) : h.IsTuple a its.toArray := ⟨_, st.get x, rfl, 0, rfl⟩
theorem iter_tup {l : Addr} {vs : List Value} (a : At l (tupO vs) led) : IterOf Γ gl cl ls led (.ref l) vs.length (fun i v => vs[i]? = some v) (fun led => At l (tupO vs) led) := fun ok h tk tl st => by
  refine wpAny_pyIter_tuple (w_isTuple st a) ⟨_, _, ls, _, rfl, st.push _, rfl, (fun (i : Nat) (c : List Ent) => ∃ o : Obj, c = [(h.objs.size, o)] ∧ ∀ h' : Heap, h'.get? h.objs.size = some o → h'.IsTupleIter h.objs.size l i), _, rfl, ⟨_, rfl, fun h' e => ⟨_, e, rfl, rfl⟩⟩, ?_⟩
  refine ⟨?_, ?_, fun i c led2 ls2 ⟨o, e, ho⟩ ka ok2 h2 tk2 tl2 st2 => by subst e; exact wpAny_pyIter_tupleiter (ho _ (st2.get (.head (.head _)))) ⟨_, _, _, _, rfl, st2, rfl, rfl, rfl⟩⟩
  · rintro i c led2 ls2 hi ⟨o, rfl, ho⟩ ka ok2 h2 tk2 tl2 st2
    have hit := ho _ (st2.get (.head (.head _)))
    refine wpAny_pyNext_tuple_item (x := vs[i]) hit (w_isTuple st2 (.tail ka)) (by simp [hi]) fun h3 hit3 hs3 => ?_
    obtain ⟨o3, e3, c3, d3⟩ := hit3
    exact ⟨h3, _, ls2, [(h.objs.size, o3)] :: led2, rfl, st2.change .head hs3 e3, vs[i], _, rfl, by simp [hi], ⟨o3, rfl, fun h' e => ⟨_, e, c3, d3⟩⟩, rfl, rfl⟩
  · rintro c led2 ls2 ⟨o, rfl, ho⟩ ka ok2 h2 tk2 tl2 st2
    have hit := ho _ (st2.get (.head (.head _)))
    exact wpAny_pyNext_tuple_end ok2.hnd hit (w_isTuple st2 (.tail ka)) (by simp) fun h3 hs3 => ⟨h3, _, ls2, led2, rfl, st2.lose hs3, rfl, rfl, rfl⟩

abbrev rangeO (a b c : Int) (t u v : Tok) : Obj := { cls := .type "range", dict := none, data := .fields #[.int a t, .int b u, .int c v], slots := #[] }
theorem iter_range {r : Addr} {a b : Int} {t u v : Tok} {n : Nat} (x : At r (rangeO a b 1 t u v) led) (hs : Builtin.Range.small a b 1 = true) (hn : Builtin.Range.rangeSize a b 1 = n) :
    IterOf Γ gl cl ls led (.ref r) n (fun i v => ∃ t, v = .int (a + i) t) (fun _ => True) := fun ok h tk tl st => by
  refine wpAny_pyIter_range (st.get x) hs ⟨_, _, ls, _, rfl, st.push _, rfl, (fun (i : Nat) (c : List Ent) => c = [(h.objs.size, ({ cls := .type "range_iterator", dict := none, data := .fields #[rawInt (a + (i : Nat)), rawInt ((n : Int) - (i : Nat)), rawInt 1], slots := #[] } : Obj))]), _, rfl, ?_, ?_⟩
  · rw [hn]; simp
  · refine ⟨?_, ?_, fun i c led2 ls2 e ka ok2 h2 tk2 tl2 st2 => by subst e; exact wpAny_pyIter_rangeiter (x := a + (i : Nat)) (left := (n : Int) - (i : Nat)) (step := 1) (st2.get (.head (.head _))) ⟨_, _, _, _, rfl, st2, rfl, rfl, rfl⟩⟩
    · rintro i c led2 ls2 hi rfl _ ok2 h2 tk2 tl2 st2
      refine wpAny_pyNext_range_item (x := a + i) (left := (n : Int) - i) (step := 1) (st2.get (.head (.head _))) (by lia) fun h3 hit3 hs3 => ?_
      refine ⟨h3, _, ls2, _, rfl, st2.change .head hs3 hit3, _, _, rfl, ⟨_, rfl⟩, ?_, rfl, rfl⟩
      have e1 : a + ((i + 1 : Nat) : Int) = a + (i : Int) + 1 := by push_cast; lia
      have e2 : (n : Int) - ((i + 1 : Nat) : Int) = (n : Int) - (i : Int) - 1 := by push_cast; lia
      rw [e1, e2]
    · rintro c led2 ls2 rfl _ ok2 h2 tk2 tl2 st2
      exact wpAny_pyNext_range_end ok2.hnd (x := a + n) (left := (n : Int) - n) (step := 1) (st2.get (.head (.head _))) (by lia) fun h3 hs3 => ⟨h3, _, ls2, led2, rfl, st2.lose hs3, rfl, rfl, rfl⟩
end

theorem sz_line {n : Nat} (h : n ≤ 100000) : n ≤ sizeLine := by rw [sizeLine_eq]; lia
section
variable {Γ : Fm} {gl : List (Str × Value)} {cl : List (Str × Addr)} {ls : Locs} {led led' : Led} {α β : Type}

theorem w_range1 {n : Int} {t : Tok} {Q : Value → Locs → Led → Prop} (h : ∀ r a b, Q (.ref r) ls ([(r, rangeO 0 n 1 a t b)] :: led)) : WP Γ gl cl ls led (call (.type "range") [.int n t]) Q :=
  fun _ _ _ _ st => call_range_1 ⟨_, _, _, _, rfl, st.push _, h _ _ _⟩
theorem w_range2 {m n : Int} {t u : Tok} {Q : Value → Locs → Led → Prop} (h : ∀ r b, Q (.ref r) ls ([(r, rangeO m n 1 t u b)] :: led)) : WP Γ gl cl ls led (call (.type "range") [.int m t, .int n u]) Q :=
  fun _ _ _ _ st => call_range_2 ⟨_, _, _, _, rfl, st.push _, h _ _⟩
theorem w_lenL {l : Addr} {vs : List Value} {n : Nat} {Q : Value → Locs → Led → Prop} (a : At l (listOf vs.toArray n) led) (hz : vs.length ≤ 100000) (h : ∀ t, Q (.int vs.length t) ls led) : WP Γ gl cl ls led (call (.builtin "len") [.ref l]) Q :=
  fun _ _ _ _ st => call_len_list (w_isList st a) (by simp; lia) (by simp only [List.size_toArray]; exact ⟨_, _, _, _, rfl, st, h _⟩)
theorem w_lenT {l : Addr} {vs : List Value} {Q : Value → Locs → Led → Prop} (a : At l (tupO vs) led) (hz : vs.length ≤ 100000) (h : ∀ t, Q (.int vs.length t) ls led) : WP Γ gl cl ls led (call (.builtin "len") [.ref l]) Q :=
  fun _ _ _ _ st => PySem.P.len_tuple (n := 0) (items := vs.toArray) (st.get a) (by simp; lia) (by simp only [List.size_toArray]; exact ⟨_, _, _, _, rfl, st, h _⟩)
theorem w_abs {a : Int} {t : Tok} {Q : Value → Locs → Led → Prop} (h : ∀ t, Q (.int (if a < 0 then -a else a) t) ls led) : WP Γ gl cl ls led (call (.builtin "abs") [.int a t]) Q :=
  fun _ _ _ _ st => call_abs_int fun _ _ => ⟨_, _, _, _, rfl, st, h _⟩
theorem w_max {a b : Int} {t u : Tok} {Q : Value → Locs → Led → Prop} (h : ∀ t, Q (.int (if b > a then b else a) t) ls led) : WP Γ gl cl ls led (call (.builtin "max") [.int a t, .int b u]) Q :=
  fun ok _ _ _ st => by
    obtain ⟨m, ex, F, N, nd, back⟩ := st.lift
    exact max_two_N ok.hnd F N fun h' tk F' N' => ⟨h', tk, ls, led, rfl, back h' led F' N' nd, h _⟩
theorem w_min {a b : Int} {t u : Tok} {Q : Value → Locs → Led → Prop} (h : ∀ t, Q (.int (if b < a then b else a) t) ls led) : WP Γ gl cl ls led (call (.builtin "min") [.int a t, .int b u]) Q :=
  fun ok _ _ _ st => by
    obtain ⟨m, ex, F, N, nd, back⟩ := st.lift
    exact min_two_N ok.hnd F N fun h' tk F' N' => ⟨h', tk, ls, led, rfl, back h' led F' N' nd, h _⟩
theorem w_isIntInt {a : Int} {t : Tok} {Q : Value → Locs → Led → Prop} (h : Q (.bool true) ls led) : WP Γ gl cl ls led (call (.builtin "isinstance") [.int a t, .type "int"]) Q :=
  fun _ _ _ _ st => IsiPair.int_int ⟨_, _, _, _, rfl, st, h⟩
theorem w_isIntBool {a : Int} {t : Tok} {Q : Value → Locs → Led → Prop} (h : Q (.bool false) ls led) : WP Γ gl cl ls led (call (.builtin "isinstance") [.int a t, .type "bool"]) Q :=
  fun _ _ _ _ st => IsiPair.int_bool ⟨_, _, _, _, rfl, st, h⟩
theorem w_isStrStr {a : Str} {t : Tok} {Q : Value → Locs → Led → Prop} (h : Q (.bool true) ls led) : WP Γ gl cl ls led (call (.builtin "isinstance") [.str a t, .type "str"]) Q :=
  fun _ _ _ _ st => IsiPair.str_str ⟨_, _, _, _, rfl, st, h⟩
theorem w_isTupTup {l : Addr} {vs : List Value} {Q : Value → Locs → Led → Prop} (a : At l (tupO vs) led) (h : Q (.bool true) ls led) : WP Γ gl cl ls led (call (.builtin "isinstance") [.ref l, .type "tuple"]) Q :=
  fun _ _ _ _ st => IsiPair.tuple_tuple (st.get a) rfl ⟨_, _, _, _, rfl, st, h⟩

theorem kl_last_app : ∀ (its : List Value) (y : Value), kl_last (its ++ [y]) = some (its, y)
  | [], y => rfl
  | x :: r, y => by
    rw [List.cons_append, kl_last, kl_last_app r y]
-- lists' methods
theorem w_meth {o : Addr} {its : List Value} {n : Nat} {name : Str} {id : String} {pl : Sem Bool} {Q : Value × List Value → Locs → Led → Prop} (a : At o (listOf its.toArray n) led) (slot : Slot "list" name id) (hty : typeOf (.builtin id) = pure (.type "method_descriptor"))
    (h : Q (.builtin id, [.ref o]) ls led) : WP Γ gl cl ls led (getMethod (.ref o) name pl) Q := fun _ _ _ _ st =>
  getMethod_builtin ⟨_, st.get a, rfl⟩ PySem.F.plainAttrs_list slot hty (fun b e => by cases e; exact ⟨_, st.get a, rfl⟩) ⟨_, _, _, _, rfl, st, h⟩
theorem w_append {l : Addr} {its : List Value} {n : Nat} {x : Value} {Q : Value → Locs → Led → Prop} (r : Rep l (listOf its.toArray n) (listOf (its ++ [x]).toArray (n + 1)) led led') (hz : its.length ≤ 100000) (h : Q .none ls led') :
    WP Γ gl cl ls led (call (.builtin "list.append") [.ref l, x]) Q := fun _ _ _ _ st => by
  refine append_at (hsz := sz_line (by simpa using hz)) (st.get r.at) fun h' hs ho' => ⟨h', _, ls, led', rfl, st.change r hs ?_, h⟩
  simpa using ho'
theorem w_pop {l : Addr} {its : List Value} {n : Nat} {y : Value} {Q : Value → Locs → Led → Prop} (r : Rep l (listOf (its ++ [y]).toArray n) (listOf its.toArray (n + 1)) led led') (hz : its.length < 100000) (h : Q y ls led') :
    WP Γ gl cl ls led (call (.builtin "list.pop") [.ref l]) Q := fun _ _ _ _ st => by
  obtain ⟨m, ex, F, N, nd, back⟩ := st.lift
  obtain ⟨U, nd'⟩ := r.upd nd
  refine kl_pop F N (p := its) (y := y) ?_ U (sz_line (by rw [List.toList_toArray, List.length_append, List.length_singleton]; lia)) (fun h' F' N' => ⟨h', _, ls, led', rfl, back h' led' F' N' nd', h⟩)
  rw [List.toList_toArray, kl_last_app]
theorem w_extend {l b : Addr} {its ys : List Value} {n n2 : Nat} {Q : Value → Locs → Led → Prop} (al : At l (listOf its.toArray n) led) (ab : At b (listOf ys.toArray n2) led)
    (hz : its.length + ys.length ≤ 100000) (h : ∀ n', ∃ led', Rep l (listOf its.toArray n) (listOf (its ++ ys).toArray n') led led' ∧ Q .none ls led') :
    WP Γ gl cl ls led (call (.builtin "list.extend") [.ref l, .ref b]) Q := fun _ _ _ _ st => by
  have e : its.toArray ++ ys.toArray = (its ++ ys).toArray := by simp
  have hz1 : its.toArray.size + ys.toArray.size ≤ sizeLine := sz_line (by simpa using hz)
  obtain ⟨led', r, hq⟩ := h (if (its.toArray ++ ys.toArray).size == its.toArray.size then n else n + 1)
  refine call_meets PySem.F.slot_list_extend ⟨_, st.get al, rfl⟩ PySem.F.entry_list_extend (PySem.F.args_list_extend_2 _ _) (PySem.AutoSeq1.list_extend_list_list_0 l its.toArray n b ys.toArray n2 (extend_door hz1) (Nat.le_trans (Nat.le_add_right _ _) hz1) (Nat.le_succ_of_le hz1)) ⟨st.get al, st.get ab, ?_⟩
  refine ⟨_, _, ls, led', rfl, st.change r (Heap.SameBut.update ..) ?_, hq⟩
  have ho' := st.get al
  rw [Heap.get?_update_self _ ho' (by rw [mapSeq_app]; rfl), mapSeq_app, e]

-- sums of sequences
theorem w_addT {t b : Addr} {vs ws : List Value} {Q : Value → Locs → Led → Prop} (a1 : At t (tupO vs) led) (a2 : At b (tupO ws) led) (hz : vs.length + ws.length ≤ 100000)
    (h0 : vs = [] → Q (.ref b) ls led) (h1 : vs ≠ [] → ws = [] → Q (.ref t) ls led) (h2 : vs ≠ [] → ws ≠ [] → ∀ a, Q (.ref a) ls ([(a, tupO (vs ++ ws))] :: led)) :
    WP Γ gl cl ls led (binaryOp .Add (.ref t) (.ref b)) Q := fun ok _ _ _ st => by
  obtain ⟨m, ex, F, N, nd, back⟩ := st.lift
  refine add_tuples F N (isTup_of (cl := .none) (st.get a1)) (isTup_of (cl := .none) (st.get a2)) (fun e => ⟨_, _, _, _, rfl, st, h0 e⟩) (fun e1 e2 => ⟨_, _, _, _, rfl, st, h1 e1 e2⟩)
    (fun e1 e2 h' F' N' => ⟨h', _, ls, _, rfl, back h' ([(_, tupO (vs ++ ws))] :: led) F' N' ?_, h2 e1 e2 _⟩) (sz_line hz)
  show ((_ :: ((led.flatten ++ (ex ++ _)).map (·.1)))).Nodup
  rw [List.nodup_cons]
  refine ⟨fun q => ?_, nd⟩
  obtain ⟨p, hp, e⟩ := List.mem_map.mp q
  exact absurd (Heap.lt_size (N p hp).1) (by rw [e]; exact Nat.lt_irrefl _)
theorem w_addL {t b : Addr} {vs ws : List Value} {n n2 : Nat} {Q : Value → Locs → Led → Prop} (a1 : At t (listOf vs.toArray n) led) (a2 : At b (listOf ws.toArray n2) led) (hz : vs.length + ws.length ≤ 100000)
    (h : ∀ a, Q (.ref a) ls ([(a, listOf (vs ++ ws).toArray 0)] :: led)) : WP Γ gl cl ls led (binaryOp .Add (.ref t) (.ref b)) Q := fun _ _ _ _ st => by
  have e : vs.toArray ++ ws.toArray = (vs ++ ws).toArray := by simp
  refine PySem.P.add_list (st.get a1) (st.get a2) ⟨_, _, _, _, rfl, ?_, h _⟩ (sz_line (by simpa using hz))
  rw [e]
  exact st.push _
-- copies
theorem w_tupleT {t : Addr} {vs : List Value} {Q : Value → Locs → Led → Prop} (a : At t (tupO vs) led) (h : Q (.ref t) ls led) : WP Γ gl cl ls led (call (.type "tuple") [.ref t]) Q :=
  fun _ _ _ _ st => call_tuple_same (w_isTuple st a) ⟨_, _, _, _, rfl, st, h⟩
theorem w_tupleL {t : Addr} {vs : List Value} {n : Nat} {Q : Value → Locs → Led → Prop} (a : At t (listOf vs.toArray n) led) (hz : vs.length ≤ 100000) (h : ∀ a, Q (.ref a) ls ([(a, tupO vs)] :: led)) : WP Γ gl cl ls led (call (.type "tuple") [.ref t]) Q :=
  fun _ _ _ _ st => call_tuple_list (w_isList st a) (fun h' hk => ⟨_, _, _, _, rfl, (st.grow hk).push (tupO vs), h _⟩) (sz_line (by simpa using hz))
theorem w_listL {t : Addr} {vs : List Value} {n : Nat} {Q : Value → Locs → Led → Prop} (a : At t (listOf vs.toArray n) led) (hz : vs.length ≤ 100000) (h : ∀ a n, Q (.ref a) ls ([(a, listOf vs.toArray n)] :: led)) : WP Γ gl cl ls led (call (.type "list") [.ref t]) Q :=
  fun _ _ _ _ st => by
    obtain ⟨m, ex, F, N, nd, back⟩ := st.lift
    refine list_copyK F N (w_isList st a) (fun D c h' F' N' l1 => ⟨h', _, ls, _, rfl, back h' ([(D, listOf vs.toArray c)] :: led) F' N' ?_, h _ _⟩) (sz_line (by simpa using hz))
    show ((_ :: ((led.flatten ++ (ex ++ _)).map (·.1)))).Nodup
    rw [List.nodup_cons]
    refine ⟨fun q => ?_, nd⟩
    obtain ⟨p, hp, e⟩ := List.mem_map.mp q
    exact absurd (l1 p hp) (by rw [e]; exact Nat.lt_irrefl _)
theorem w_listT {t : Addr} {vs : List Value} {Q : Value → Locs → Led → Prop} (a : At t (tupO vs) led) (hz : vs.length ≤ 100000) (h : ∀ a n, Q (.ref a) ls ([(a, listOf vs.toArray n)] :: led)) : WP Γ gl cl ls led (call (.type "list") [.ref t]) Q :=
  fun _ _ _ _ st => by
    obtain ⟨m, ex, F, N, nd, back⟩ := st.lift
    refine list_copyKT F N (isTup_of (cl := .none) (st.get a)) (fun D c h' F' N' l1 => ⟨h', _, ls, _, rfl, back h' ([(D, listOf vs.toArray c)] :: led) F' N' ?_, h _ _⟩) (sz_line (by simpa using hz))
    show ((_ :: ((led.flatten ++ (ex ++ _)).map (·.1)))).Nodup
    rw [List.nodup_cons]
    refine ⟨fun q => ?_, nd⟩
    obtain ⟨p, hp, e⟩ := List.mem_map.mp q
    exact absurd (l1 p hp) (by rw [e]; exact Nat.lt_irrefl _)
/-- the ints from a on, by one -/
def upInts (a : Int) : Nat → List Int
  | 0 => []
  | n + 1 => a :: upInts (a + 1) n
theorem upInts_len : ∀ (n : Nat) (a : Int), (upInts a n).length = n
  | 0, _ => rfl
  | n + 1, a => by rw [upInts, List.length_cons, upInts_len n]
theorem upInts_get : ∀ (n : Nat) (a : Int) (j : Nat), j < n → (upInts a n)[j]? = some (a + j)
  | 0, _, _, h => absurd h (Nat.not_lt_zero _)
  | n + 1, a, 0, _ => by rw [upInts]; simp
  | n + 1, a, j + 1, h => by
    rw [upInts, List.getElem?_cons_succ, upInts_get n (a + 1) j (Nat.lt_of_succ_lt_succ h)]
    congr 1
    push_cast
    lia
theorem upInts_of : ∀ (vs : List Value) (n : Nat) (a : Int), vs.length = n → (∀ (j : Nat) (v : Value), vs[j]? = some v → ∃ t : Tok, v = Value.int (a + (j : Int)) t) → IntsAre vs (upInts a n)
  | [], n, a, e, _ => by cases e; exact .nil
  | v :: r, n, a, e, h => by
    cases e
    obtain ⟨t, rfl⟩ := h 0 v rfl
    rw [List.length_cons, upInts]
    have : a + ((0 : Nat) : Int) = a := by simp
    rw [this]
    refine .cons a t (upInts_of r _ (a + 1) rfl fun j v hv => ?_)
    obtain ⟨t, rfl⟩ := h (j + 1) v (by simpa using hv)
    refine ⟨t, ?_⟩
    have : a + ((j + 1 : Nat) : Int) = a + 1 + (j : Int) := by push_cast; lia
    rw [this]
theorem w_listR {r : Addr} {a b : Int} {t u v : Tok} {n : Nat} {Q : Value → Locs → Led → Prop} (x : At r (rangeO a b 1 t u v) led) (hs : Builtin.Range.small a b 1 = true) (hn : Builtin.Range.rangeSize a b 1 = n) (hz : n ≤ 10000)
    (h : ∀ D c vs, IntsAre vs (upInts a n) → Q (.ref D) ls ([(D, listOf vs.toArray c)] :: led)) : WP Γ gl cl ls led (call (.type "list") [.ref r]) Q :=
  fun ok hp _ _ st => by
    refine call_list_range ok.hnd (st.get x) hs hn (by lia) fun h' tk acc' c' hk hS' hacc => ⟨h', tk, ls, [(hp.objs.size, listOf acc'.toList.toArray c')] :: led, rfl, ?_, h _ _ acc'.toList ?_⟩
    · obtain ⟨m, ex, F, N, nd, lc⟩ := st
      refine ⟨m, ex, F.keeps hk, fun p hp' => ?_, ?_, lc⟩
      · rcases List.mem_cons.mp hp' with rfl | hp'
        · refine ⟨by simpa using hS', ?_, ?_⟩
          · exact fun e => absurd (e ▸ F.ns.lt) (Nat.lt_irrefl _)
          · exact F.fresh
        · exact ⟨hk _ _ (N p hp').1, (N p hp').2⟩
      · show ((_ :: ((led.flatten ++ (ex ++ _)).map (·.1)))).Nodup
        rw [List.nodup_cons]
        refine ⟨fun q => ?_, nd⟩
        obtain ⟨p, hp, e⟩ := List.mem_map.mp q
        exact absurd (Heap.lt_size (N p hp).1) (by rw [e]; exact Nat.lt_irrefl _)
    · refine upInts_of _ n a (by simpa using hacc.1) fun j v hv => ?_
      obtain ⟨t, rfl⟩ := hacc.2 j v (by simpa using hv)
      exact ⟨t, by simp⟩
end

section
variable {Γ : Fm} {gl : List (Str × Value)} {cl : List (Str × Addr)} {ls : Locs} {led led' : Led} {α β : Type}
abbrev sliceO (l u s : Value) : Obj := { cls := .type "slice", data := .fields #[l, u, s] }
theorem w_partNone {Q : Value → Locs → Led → Prop} (h : Q .none ls led) : WP Γ gl cl ls led (evalPart none Γ.env) Q := fun _ _ _ _ st => wpAny_pure ⟨_, _, _, _, rfl, st, h⟩
theorem w_partSome {e : PySem.Expr} {Q : Value → Locs → Led → Prop} (h : WP Γ gl cl ls led (eval e Γ.env) Q) : WP Γ gl cl ls led (evalPart (some e) Γ.env) Q := h
theorem w_Slice {lower upper step : Option PySem.Expr} {p : Pos} {Q : Value → Locs → Led → Prop}
    (H : WP Γ gl cl ls led (evalPart lower Γ.env) (fun l ls1 led1 => WP Γ gl cl ls1 led1 (evalPart upper Γ.env) (fun u ls2 led2 => WP Γ gl cl ls2 led2 (evalPart step Γ.env) (fun s ls3 led3 => ∀ a, Q (.ref a) ls3 ([(a, sliceO l u s)] :: led3))))) :
    WP Γ gl cl ls led (eval (.Slice lower upper step p) Γ.env) Q := fun ok _ _ _ st =>
  wpAny_Slice (H.run ok st fun _ _ _ _ _ st1 H1 => H1.run ok st1 fun _ _ _ _ _ st2 H2 => H2.run ok st2 fun _ _ _ _ _ st3 H3 => ⟨_, _, _, _, rfl, st3.push _, H3 _⟩)

theorem w_sliceL {value slice : PySem.Expr} {l sl : Addr} {its : List Value} {n : Nat} {vl vu vs : Value} {lo hi stp : Option Int} {zs : List Value} {ops : List Value} {Q : Value → Locs → Led → Prop}
    (a : At l (listOf its.toArray n) led) (b : At sl (sliceO vl vu vs) led) (pl : IsPart vl lo) (pu : IsPart vu hi) (ps : IsPart vs stp) (h0 : stp ≠ some 0) (e : (slicePick its.toArray lo hi stp).toList = zs) (hz : its.length ≤ 100000)
    (h : ∀ a, Q (.ref a) ls ([(a, listOf zs.toArray 0)] :: led))
    (hs : subscripted slice false (.ref l) (.ref sl) = operate ops (getItem (.ref l) (.ref sl)) := by with_unfolding_all rfl)
    (ht : ∀ r, letTemporaryGo value (.ref l) r = pure () := by intro _; with_unfolding_all rfl) :
    WP Γ gl cl ls led (subscriptTail value slice (.ref l) (.ref sl)) Q := fun _ _ _ _ st => by
  refine subscriptTail_ops ⟨_, st.get a, rfl⟩ list_getitem_lookup (wpAny_getItem_list_slice (w_isList st a) ⟨_, st.get b, rfl, rfl⟩ pl pu ps h0 ⟨_, _, _, _, rfl, st.push _, ?_⟩ (sz_line (by simpa using hz))) hs ht
  have e2 : slicePick its.toArray lo hi stp = zs.toArray := by rw [← e]
  rw [e2]
  exact h _

theorem slice_range {a b : Nat} (its : List Value) (hb : b ≤ its.length) (hab : a ≤ b) : (slicePick its.toArray (some (a : Int)) (some (b : Int)) none).toList = (its.drop a).take (b - a) := by
  rw [slicePick_run its.toArray a b (by simpa using hb) hab]
/-- text[a:b] with b perhaps beyond the end -/
theorem slice_over {a b : Nat} (its : List Value) (ha : a ≤ its.length) (hb : its.length ≤ b) : (slicePick its.toArray (some (a : Int)) (some (b : Int)) none).toList = its.drop a := by
  have : slicePick its.toArray (some (a : Int)) (some (b : Int)) none = slicePick its.toArray (some (a : Int)) (some (its.length : Int)) none := by
    unfold slicePick sliceBounds
    simp
    congr 3
    omega
  rw [this, slice_range its (Nat.le_refl _) ha, List.take_of_length_le (by simp)]
theorem slice_win {a k : Nat} (its : List Value) (ha : a ≤ its.length) : (slicePick its.toArray (some (a : Int)) (some ((a : Int) + (k : Int))) none).toList = (its.drop a).take k := by
  have e : ((a : Int) + (k : Int)) = ((a + k : Nat) : Int) := by push_cast; rfl
  rw [e]
  by_cases h : a + k ≤ its.length
  · rw [slice_range its h (Nat.le_add_right _ _)]; congr 1; omega
  · rw [slice_over its ha (by omega), List.take_of_length_le (by simp; omega)]
theorem slice_rev (its : List Value) : (slicePick its.toArray none none (some (-1))).toList = its.reverse := by rw [krv_pick]

theorem adj_upto {y : Int} {n k : Nat} (hk : (if y < 0 then max (y + n) 0 else min y n) = (k : Int)) : Builtin.Slice.sliceAdjust none (some y) 1 (n : Int) = (0, (k : Int)) := by
  rw [← hk]; rfl
theorem places_upto (k : Nat) : Builtin.Slice.slicePlaces 0 (k : Int) 1 = k := by
  unfold Builtin.Slice.slicePlaces
  have h1 : (1 : Int) > 0 := by omega
  simp only [h1, if_true, Int.ediv_one]
  split <;> omega
theorem sliceApplied_upto {prog : Program} {w : World} {A : Around} {E : Value → Shared → Prop} {s : Shared} {sl : Addr} {y : Int} {n k : Nat} {u : Tok} {Q : Int × Int × Nat → Shared → Prop} (hs : s.heap.IsSliceOf sl .none (.int y u) .none) (hk : (if y < 0 then max (y + n) 0 else min y n) = (k : Int)) (h : Q (0, 1, k) s) :
    wpAny (model prog w) A (Builtin.Slice.sliceApplied (.ref sl) (pure (n : Int))) Q E s := by
  obtain ⟨os, hos, hcs, hds⟩ := id hs
  unfold Builtin.Slice.sliceApplied Builtin.Slice.sliceFields
  refine wpAny_bind (wpAny_bind (wpAny_field hos hds (x := .none) rfl (wpAny_bind (wpAny_field hos hds (x := .int y u) rfl (wpAny_bind (wpAny_field hos hds (x := .none) rfl (wpAny_pure ?_)))))))
  refine wpAny_bind (slicePart_none ?_)
  show wpAny _ _ (if ((1 : Int) == 0) = true then _ else _) _ _ s
  rw [if_neg (by decide)]
  refine wpAny_bind (slicePart_none (wpAny_bind (slicePart_int (wpAny_bind (wpAny_pure ?_)))))
  show wpAny _ _ (match Builtin.Slice.sliceAdjust none (some y) 1 (n : Int) with | (lo, hi) => pure (lo, (1 : Int), Builtin.Slice.slicePlaces lo hi 1)) _ _ s
  rw [adj_upto hk]
  show wpAny _ _ (pure (0, (1 : Int), Builtin.Slice.slicePlaces 0 (k : Int) 1)) _ _ s
  rw [places_upto]
  exact wpAny_pure h
theorem pick_upto (xs : Array Value) (k : Nat) : ((List.range k).filterMap fun (j : Nat) => xs[((0 : Int) + (j : Int) * 1).toNat]?).toArray = (xs.toList.take k).toArray := by
  have e : (fun (j : Nat) => xs[((0 : Int) + (j : Int) * 1).toNat]?) = fun j => xs[0 + j]? := by
    funext j
    have : ((0 : Int) + (j : Int) * 1).toNat = 0 + j := by omega
    rw [this]
  rw [e]
  have := pick_run xs 0 k
  rw [List.filterMap_map] at this
  have e2 : ((fun x => xs[x]?) ∘ fun x => 0 + x) = fun j => xs[0 + j]? := rfl
  rw [e2] at this
  rw [this, List.drop_zero]
theorem getItem_upto {prog : Program} {w : World} {A : Around} {E : Value → Shared → Prop} {s : Shared} {t sl : Addr} {items : Array Value} {y : Int} {u : Tok} {k : Nat} {Q : Value → Shared → Prop} (ht : IsTup s.heap t items) (hs : s.heap.IsSliceOf sl .none (.int y u) .none)
    (hk : (if y < 0 then max (y + items.size) 0 else min y items.size) = (k : Int)) (h0 : k = items.size → Q (.ref t) s)
    (h1 : k ≠ items.size → Q (.ref s.heap.objs.size) { s with heap := s.heap.push { cls := .type "tuple", data := .seq (items.toList.take k).toArray } })
    (hsz : items.size ≤ sizeLine) : wpAny (model prog w) A (getItem (.ref t) (.ref sl)) Q E s := by
  have hdrop : sizeOk (.seq (items.toList.take k).toArray) := by
    show (items.toList.take k).toArray.size ≤ sizeLine
    rw [List.size_toArray, List.length_take, Array.length_toList]
    omega
  obtain ⟨os, hos, hcs, hds⟩ := id hs
  have hTs : s.TypeIs (.ref sl) "slice" := ⟨os, hos, hcs⟩
  unfold getItem
  try with_reducible refine wpAny_holding ?_
  first | refine wpAny_bind (wpAny_pure ?_) | skip
  refine wpAny_bind (wpAny_sequenceKey ht.typeIs (by decide) ?_)
  refine wpAny_bind (wpAny_callSpecial?_slot (name := Str.ofString "__getitem__") ht.typeIs slot_tuple_getitem
    (wpAny_call_entry slot_tuple_getitem ht.typeIs entry_tuple_getitem ?_ (args_tuple_getitem _ _)))
  show wpAny _ _ (Builtin.Tuple.tupleItemsOf (.ref t) >>= _) _ _ s
  refine wpAny_bind (tupleItemsOf_ ht ?_)
  refine wpAny_bind (wpAny_typeOf hTs ?_)
  rw [if_pos (by decide)]
  refine wpAny_bind (sliceApplied_upto hs hk ?_)
  show wpAny _ _ (if ((0 : Int) == 0 && (1 : Int) == 1 && k == items.size) = true then _ else _) _ _ s
  by_cases hks : k = items.size
  · rw [if_pos (by simp [hks])]
    refine wpAny_bind (m := Builtin.Tuple.tupleIsExact (.ref t)) ?_
    unfold Builtin.Tuple.tupleIsExact
    refine wpAny_bind (wpAny_typeOf ht.typeIs (wpAny_pure ?_))
    rw [if_pos (by decide)]
    first
      | exact wpAny_rule (wpAny_bind (wpAny_pure ⟨_, rfl, wpAny_pure (h0 hks)⟩))
      | exact wpAny_bind (wpAny_rule (wpAny_bind (wpAny_pure (wpAny_pure ⟨_, rfl, wpAny_pure (h0 hks)⟩))))
      | exact wpAny_bind (wpAny_rule (wpAny_pure ⟨_, rfl, wpAny_pure (h0 hks)⟩))
      | exact wpAny_bind (wpAny_rule (wpAny_pure (wpAny_pure ⟨_, rfl, wpAny_pure (h0 hks)⟩)))
      | exact wpAny_rule (wpAny_pure ⟨_, rfl, wpAny_pure (h0 hks)⟩)
      | trace_state
  · rw [if_neg (by simpa using hks), pick_upto items k]
    have h := h1 hks
    first
      | exact wpAny_bind (m := Builtin.Tuple.tupleExact _) (wpAny_newObj_type (wpAny_pure ⟨_, rfl, wpAny_pure h⟩) hdrop)
      | exact wpAny_bind (m := Builtin.Tuple.tupleExact _) (wpAny_newObj_type (wpAny_bind (wpAny_pure (wpAny_pure ⟨_, rfl, wpAny_pure h⟩))) hdrop)
      | exact wpAny_bind (wpAny_bind (m := Builtin.Tuple.tupleExact _) (wpAny_newObj_type (wpAny_pure (wpAny_pure ⟨_, rfl, wpAny_pure h⟩)) hdrop))
      | exact wpAny_bind (wpAny_bind (m := Builtin.Tuple.tupleExact _) (wpAny_newObj_type (wpAny_pure ⟨_, rfl, wpAny_pure h⟩) hdrop))
theorem w_sliceT {value slice : PySem.Expr} {t sl : Addr} {vs : List Value} {y : Int} {u : Tok} {k : Nat} {ops : List Value} {Q : Value → Locs → Led → Prop}
    (a : At t (tupO vs) led) (b : At sl (sliceO .none (.int y u) .none) led) (hk : (if y < 0 then max (y + vs.length) 0 else min y vs.length) = (k : Int)) (hz : vs.length ≤ 100000)
    (h0 : k = vs.length → Q (.ref t) ls led) (h1 : k ≠ vs.length → ∀ a, Q (.ref a) ls ([(a, tupO (vs.take k))] :: led))
    (hs : subscripted slice false (.ref t) (.ref sl) = operate ops (getItem (.ref t) (.ref sl)) := by with_unfolding_all rfl)
    (hg : ∀ r, letTemporaryGo value (.ref t) r = pure () := by intro _; with_unfolding_all rfl) :
    WP Γ gl cl ls led (subscriptTail value slice (.ref t) (.ref sl)) Q := fun _ _ _ _ st => by
  have hz' : vs.toArray.size = vs.length := List.size_toArray ..
  refine subscriptTail_ops ⟨_, st.get a, rfl⟩ slot_tuple_getitem.lookup (getItem_upto (isTup_of (cl := .none) (st.get a)) ⟨_, st.get b, rfl, rfl⟩ (by rw [hz']; exact hk) (fun e => ⟨_, _, _, _, rfl, st, h0 (e.trans hz')⟩) (fun e => ⟨_, _, _, _, rfl, st.push _, h1 (fun q => e (q.trans hz'.symm)) _⟩) (by rw [hz']; exact sz_line hz)) hs hg
end

abbrev dictO (es : Array DictEntry) (ep : Nat) : Obj := { cls := .type "dict", dict := none, data := .dict es ep, slots := #[] }

section
variable {prog : Program} {w : World} {A : Around} {E : Value → Shared → Prop} {s : Shared} {d it : Addr} {es : Array DictEntry} {ep i : Nat}
theorem dict_ty (ho : s.heap.get? d = some (dictO es ep)) : s.TypeIs (.ref d) "dict" := ⟨_, ho, rfl⟩
/-- the walk over a dict's keys, whatever the keys are -/
theorem raw_iter {Q : Value → Shared → Prop} (hd : (d == sysModules) = false) (ho : s.heap.get? d = some (dictO es ep))
    (hQ : Q (.ref s.heap.objs.size) { s with heap := s.heap.push { cls := .type "dict_keyiterator", data := .fields #[.ref d, .int 0 0, .int es.size 0, .int ep 0] } }) :
    wpAny (model prog w) A (pyIter (.ref d)) Q E s := by
  refine wpAny_pyIter_slot (dict_ty ho) F.slot_dict_iter (wpAny_call_entry F.slot_dict_iter (dict_ty ho) F.entry_dict_iter ?_ (F.args_dict_iter_1 _))
  unfold Builtin.«dict.__iter__»
  refine wpAny_bind ?_
  unfold Builtin.Dict.dictSlotNone
  refine wpAny_bind (wpAny_notOrdered_dict (dict_ty ho) ?_)
  show wpAny _ _ (pure (Value.ref d)) _ _ s
  refine wpAny_pure ?_
  show wpAny _ _ (Builtin.Dict.showsAll d >>= _) _ _ s
  unfold Builtin.Dict.showsAll
  rw [if_neg (by rw [hd]; exact Bool.false_ne_true)]
  refine wpAny_bind (wpAny_pure ?_)
  refine wpAny_bind (wpAny_dictEntries ho rfl ?_)
  refine wpAny_bind (wpAny_dictEpoch ho rfl ?_)
  refine wpAny_bind (wpAny_newObj_type (wpAny_pure ⟨_, rfl, "dict_keyiterator", _, ⟨_, Heap.get?_push_size _ rfl, rfl⟩, F.slot_dict_keyiterator_next.lookup, ?_⟩))
  simpa [rawInt] using hQ
theorem raw_item {e : DictEntry} {Q : Option Value → Shared → Prop} (hit : s.heap.IsKeyIter it d i es.size ep) (hod : s.heap.get? d = some (dictO es ep)) (hx : es[i]? = some e)
    (hQ : ∀ h', h'.IsKeyIter it d (i + 1) es.size ep → Heap.SameBut it s.heap h' → Q (some e.key) { s with heap := h' }) :
    wpAny (model prog w) A (pyNext (.ref it)) Q E s := by
  obtain ⟨o, ho, hc, hd⟩ := id hit
  unfold pyNext
  refine wpAny_bind (wpAny_attempt (wpAny_callSpecial?_slot (name := Str.ofString "__next__") hit.typeIs F.slot_dict_keyiterator_next
    (wpAny_call_entry F.slot_dict_keyiterator_next hit.typeIs F.entry_dict_keyiterator_next ?_ (F.args_dict_keyiterator_next_1 _))))
  refine wpAny_bind (wpAny_pure ?_)
  refine wpAny_bind ?_
  refine wpAny_bind ?_
  first | refine wpAny_bind (wpAny_typeNameOfWhole_keyiter hit.typeIs (wpAny_pure ?_)) | refine wpAny_bind (wpAny_typeNameOf_keyiter hit.typeIs (wpAny_pure ?_))
  refine wpAny_bind (wpAny_fieldsOf ho hd ?_)
  have hown : Builtin.Dict_items.ownsTuple "dict_keyiterator" = false := by decide
  simp only [hown, Bool.false_eq_true, if_false]
  show wpAny _ _ (if (Value.ref d == Value.none) = true then _ else _) _ _ s
  rw [if_neg (show ¬ ((Value.ref d == Value.none) = true) from Bool.false_ne_true)]
  refine wpAny_bind (wpAny_pure ?_)
  refine wpAny_bind (wpAny_dictEntries hod rfl ?_)
  rw [if_neg (by simp)]
  refine wpAny_bind (wpAny_pure ?_)
  refine wpAny_bind (wpAny_dictEpoch hod rfl ?_)
  rw [if_neg (by simp)]
  refine wpAny_pure ?_
  simp only [show ¬ ((i : Int) < 0) from by lia, if_false, Int.toNat_natCast, hx]
  refine wpAny_bind ?_
  first | refine wpAny_bind (wpAny_typeNameOfWhole_keyiter hit.typeIs (wpAny_pure ?_)) | refine wpAny_bind (wpAny_typeNameOf_keyiter hit.typeIs (wpAny_pure ?_))
  refine wpAny_bind (wpAny_isOneOf_keyiter hit.typeIs ?_)
  show wpAny _ _ (setField (.ref it) 1 (rawInt ((i : Int) + 1)) >>= _) _ _ s
  refine wpAny_bind (wpAny_setField ho hd (by simp) ?_)
  have hit' : (s.heap.update it (Obj.mapFields (·.setIfInBounds 1 (rawInt ((i : Int) + 1))))).IsKeyIter it d (i + 1) es.size ep :=
    ⟨_, Heap.get?_update_self _ ho (Obj.isFreed_of_fields (Obj.data_mapFields hd _)), (Obj.cls_mapFields ..).trans hc, by rw [Obj.data_mapFields hd]; simp [rawInt]⟩
  refine wpAny_bind (wpAny_holding ?_)
  refine wpAny_bind (wpAny_isOneOf_keyiter (s := { s with heap := s.heap.update it (Obj.mapFields (·.setIfInBounds 1 (rawInt ((i : Int) + 1)))) }) hit'.typeIs ?_)
  show wpAny _ _ (pure e.key) _ _ _
  exact wpAny_pure (wpAny_pure ⟨_, rfl, wpAny_pure (hQ _ hit' (Heap.SameBut.update ..))⟩)
theorem raw_end {Q : Option Value → Shared → Prop} (hh : A.handled = none) (hit : s.heap.IsKeyIter it d i es.size ep) (hod : s.heap.get? d = some (dictO es ep)) (hx : es.size ≤ i)
    (hQ : ∀ h', Heap.ExtBut it s.heap h' → Q none { s with heap := h' }) : wpAny (model prog w) A (pyNext (.ref it)) Q E s := by
  obtain ⟨o, ho, hc, hd⟩ := id hit
  unfold pyNext
  refine wpAny_bind (wpAny_attempt (wpAny_callSpecial?_slot (name := Str.ofString "__next__") hit.typeIs F.slot_dict_keyiterator_next
    (wpAny_call_entry F.slot_dict_keyiterator_next hit.typeIs F.entry_dict_keyiterator_next ?_ (F.args_dict_keyiterator_next_1 _))))
  refine wpAny_bind (wpAny_pure ?_)
  refine wpAny_bind ?_
  refine wpAny_bind ?_
  first | refine wpAny_bind (wpAny_typeNameOfWhole_keyiter hit.typeIs (wpAny_pure ?_)) | refine wpAny_bind (wpAny_typeNameOf_keyiter hit.typeIs (wpAny_pure ?_))
  refine wpAny_bind (wpAny_fieldsOf ho hd ?_)
  have hown : Builtin.Dict_items.ownsTuple "dict_keyiterator" = false := by decide
  simp only [hown, Bool.false_eq_true, if_false]
  show wpAny _ _ (if (Value.ref d == Value.none) = true then _ else _) _ _ s
  rw [if_neg (show ¬ ((Value.ref d == Value.none) = true) from Bool.false_ne_true)]
  refine wpAny_bind (wpAny_pure ?_)
  refine wpAny_bind (wpAny_dictEntries hod rfl ?_)
  rw [if_neg (by simp)]
  refine wpAny_bind (wpAny_pure ?_)
  refine wpAny_bind (wpAny_dictEpoch hod rfl ?_)
  rw [if_neg (by simp)]
  refine wpAny_pure ?_
  simp only [show ¬ ((i : Int) < 0) from by lia, if_false, Int.toNat_natCast, Array.getElem?_eq_none hx]
  refine wpAny_bind ?_
  first | refine wpAny_bind (wpAny_typeNameOfWhole_keyiter hit.typeIs (wpAny_pure ?_)) | refine wpAny_bind (wpAny_typeNameOf_keyiter hit.typeIs (wpAny_pure ?_))
  show wpAny _ _ (setField (.ref it) 0 .none >>= _) _ _ s
  refine wpAny_bind (wpAny_setField ho hd (by simp) ?_)
  show wpAny _ _ (newExc (.type "StopIteration") [] >>= _) _ _ _
  refine wpAny_bind ?_
  simp only [newExc, newTuple]
  refine wpAny_bind (wpAny_newObj_type ?_ (by size_fits))
  refine wpAny_bind (m := firstArgMember _ _) (wpAny_of_eq (a := Value.none) (by first | rfl | (simp only [firstArgMember]; rfl)) ?_)
  refine wpAny_newObj_type ?_ (by size_fits)
  simp only [raiseNew]
  refine wpAny_bind (wpAny_handled ?_)
  rw [show A.in1.handled = none from hh]
  refine wpAny_bind (wpAny_pure (wpAny_throw ?_))
  refine wpAny_bind (wpAny_isInstance (T := "StopIteration") (b := true) ⟨_, Heap.get?_push_size _ rfl, rfl⟩ isSubtype_stop ?_)
  exact wpAny_pure (hQ _ (((Heap.SameBut.update ..).extBut.push _).push _))
theorem raw_len {Q : Value → Shared → Prop} (hd : (d == sysModules) = false) (ho : s.heap.get? d = some (dictO es ep)) (hfit : es.size ≤ 100000)
    (h : ∀ t tk, Q (.int es.size t) { s with toks := tk }) : wpAny (model prog w) A (call (.builtin "len") [.ref d]) Q E s := by
  refine Calls.call_function_entry kind_len plain_len entry_len (args_len1 _) ?_
  have meets : MeetsIn prog w (Builtin.«dict.__len__» ⟨[.ref d], []⟩) (fun _ R s => s.heap.get? d = some (dictO es ep) ∧ R (.ok (.ret (.int es.size s.toks))) { s with toks := s.toks + 1 }) :=
    .of_wp fun A R s ⟨ho, h⟩ => by
      show wpAny _ _ (dictSize d >>= _) _ _ s
      unfold dictSize
      refine wpAny_bind (wpAny_bind (wpAny_dictEntries ho rfl (wpAny_pure ?_)))
      show wpAny _ _ (Builtin.Dict.pendingCount d >>= _) _ _ s
      refine wpAny_bind (wpAny_pendingCount_other hd ?_)
      refine wpAny_ret_mkInt ?_
      rw [Nat.add_zero]; exact h
  unfold Builtin.«len»
  refine wpAny_bind (m := oneArg "len" _) (wpAny_pure ?_)
  refine wpAny_bind (m := callSpecial? (.ref d) (Str.ofString "__len__")) (wpAny_callSpecial?_slot (name := Str.ofString "__len__") (dict_ty ho) F.slot_dict_len
    (call_meetsIn F.slot_dict_len (dict_ty ho) F.entry_dict_len (F.args_dict_len_1 _) meets ⟨ho, ?_⟩))
  show wpAny _ _ _ _ _ { s with toks := s.toks + 1 }
  refine wpAny_bind (wpAny_holding (wpAny_pure ?_))
  refine wpAny_bind (wpAny_letGo ?_)
  show wpAny _ _ (if ((es.size : Nat) : Int) < 0 then _ else _) _ _ _
  rw [if_neg (by lia)]
  show wpAny _ _ (if ((es.size : Nat) : Int) ≥ 2 ^ 63 then _ else _) _ _ _
  rw [if_neg (by lia)]
  exact wpAny_bind (wpAny_mkInt (wpAny_pure ⟨_, rfl, h _ _⟩))
end

section
variable {Γ : Fm} {gl : List (Str × Value)} {cl : List (Str × Addr)} {ls : Locs} {led led' : Led} {α β : Type}
theorem St.fresh {h : Heap} {tl : List Ent} (ok : Γ.Ok gl cl) (st : St Γ h ls led tl) : (h.objs.size == sysModules) = false := by
  obtain ⟨m, ex, F, N, nd, lc⟩ := st
  exact F.notModules (modules_low (Top.nolimit ok.top))
theorem w_Dict0 {pos : Pos} {Q : Value → Locs → Led → Prop} (h : ∀ a, (a == sysModules) = false → Q (.ref a) ls ([(a, dictO #[] 0)] :: led)) : WP Γ gl cl ls led (eval (.Dict [] [] pos) Γ.env) Q :=
  fun ok _ _ _ st => wpAny_Dict_empty ⟨_, _, _, _, rfl, st.push _, h _ (st.fresh ok)⟩
theorem w_lenD {d : Addr} {es : Array DictEntry} {ep : Nat} {Q : Value → Locs → Led → Prop} {n : Nat} (a : At d (dictO es ep) led) (lo : (d == sysModules) = false) (hn : es.size = n) (hz : n ≤ 100000) (h : ∀ t, Q (.int n t) ls led) : WP Γ gl cl ls led (call (.builtin "len") [.ref d]) Q :=
  fun ok _ _ _ st => by
    subst hn
    exact raw_len lo (st.get a) hz fun _ _ => ⟨_, _, _, _, rfl, st, h _⟩
theorem iter_dict {d : Addr} {es : Array DictEntry} {ep : Nat} (a : At d (dictO es ep) led) (lo : (d == sysModules) = false) : IterOf Γ gl cl ls led (.ref d) es.size (fun i v => ∃ e, es[i]? = some e ∧ v = e.key) (fun led => At d (dictO es ep) led) := fun ok h tk tl st => by
  refine raw_iter lo (st.get a) ⟨_, _, ls, _, rfl, st.push _, rfl, (fun (i : Nat) (c : List Ent) => ∃ o : Obj, c = [(h.objs.size, o)] ∧ ∀ h' : Heap, h'.get? h.objs.size = some o → h'.IsKeyIter h.objs.size d i es.size ep), _, rfl, ⟨_, rfl, fun h' e => ⟨_, e, rfl, rfl⟩⟩, ?_⟩
  refine ⟨?_, ?_, fun i c led2 ls2 ⟨o, e, ho⟩ ka ok2 h2 tk2 tl2 st2 => by subst e; exact wpAny_pyIter_keyiter (ho _ (st2.get (.head (.head _)))) ⟨_, _, _, _, rfl, st2, rfl, rfl, rfl⟩⟩
  · rintro i c led2 ls2 hi ⟨o, rfl, ho⟩ ka ok2 h2 tk2 tl2 st2
    have hit := ho _ (st2.get (.head (.head _)))
    refine raw_item (e := es[i]) hit (st2.get (.tail ka)) (by simp [hi]) fun h3 hit3 hs3 => ?_
    obtain ⟨o3, e3, c3, d3⟩ := hit3
    exact ⟨h3, _, ls2, [(h.objs.size, o3)] :: led2, rfl, st2.change .head hs3 e3, _, _, rfl, ⟨es[i], by simp [hi], rfl⟩, ⟨o3, rfl, fun h' e => ⟨_, e, c3, d3⟩⟩, rfl, rfl⟩
  · rintro c led2 ls2 ⟨o, rfl, ho⟩ ka ok2 h2 tk2 tl2 st2
    have hit := ho _ (st2.get (.head (.head _)))
    exact raw_end ok2.hnd hit (st2.get (.tail ka)) (Nat.le_refl _) fun h3 hs3 => ⟨h3, _, ls2, led2, rfl, st2.lose hs3, rfl, rfl, rfl⟩

-- dicts by ints
inductive IPairs : List DictEntry → List (Int × Value) → Prop
  | nil : IPairs [] []
  | cons (k : Int) (t : Tok) (v : Value) {es : List DictEntry} {kvs : List (Int × Value)} : IPairs es kvs → IPairs (⟨hashInt k, .int k t, v⟩ :: es) ((k, v) :: kvs)
theorem IPairs.length {es : List DictEntry} {kvs : List (Int × Value)} (h : IPairs es kvs) : es.length = kvs.length := by
  induction h with
  | nil => rfl
  | cons _ _ _ _ ih => simp [ih]
theorem IPairs.get {es : List DictEntry} {kvs : List (Int × Value)} (h : IPairs es kvs) : ∀ (i : Nat) (e : DictEntry), es[i]? = some e → ∃ k t v, e = ⟨hashInt k, .int k t, v⟩ ∧ kvs[i]? = some (k, v) := by
  induction h with
  | nil => intro i e h; simp at h
  | cons k t v _ ih =>
    intro i e h
    cases i with
    | zero => simp at h; exact ⟨k, t, v, h.symm, rfl⟩
    | succ i => simp at h; obtain ⟨k, t, v, e1, e2⟩ := ih i e h; exact ⟨k, t, v, e1, by simpa using e2⟩
theorem IPairs.keys {w : World} {es : List DictEntry} {kvs : List (Int × Value)} (h : IPairs es kvs) : ∀ e ∈ es, ∃ k, (PySem.intKind pw w).is k e.key = true ∧ e.hash = (PySem.intKind pw w).hash k := by
  induction h with
  | nil => intro e h; cases h
  | cons k t v _ ih =>
    intro e h
    rcases List.mem_cons.mp h with rfl | h
    · exact ⟨k, by simp [PySem.intKind, Value.isInt], rfl⟩
    · exact ih e h
theorem IPairs.pairs {w : World} {es : List DictEntry} {kvs : List (Int × Value)} (h : IPairs es kvs) : Pairs (PySem.intKind pw w) es kvs := by
  induction h with
  | nil => exact .nil
  | cons k t v _ ih => exact .cons (by simp [PySem.intKind, Value.isInt]) rfl ih
theorem IPairs.of {w : World} {es : List DictEntry} {kvs : List (Int × Value)} (h : Pairs (PySem.intKind pw w) es kvs) : (∀ e ∈ es, ∃ k, (PySem.intKind pw w).is k e.key = true ∧ e.hash = (PySem.intKind pw w).hash k) → IPairs es kvs := by
  induction h with
  | nil => intro _; exact .nil
  | @cons e kv es kvs a b _ ih =>
    intro hk
    obtain ⟨k', h1, h2⟩ := hk e (.head _)
    have : k' = kv.1 := (PySem.intKind pw w).inj _ _ _ h1 a
    subst this
    obtain ⟨t, h3⟩ := Value.isInt_shape h1
    obtain ⟨eh, ek, ev⟩ := e
    obtain ⟨kk, vv⟩ := kv
    simp only at h2 h3 b
    subst h3 b
    have : eh = hashInt kk := h2
    subst this
    exact .cons kk t ev (ih fun e he => hk e (.tail _ he))
def IDict (es : Array DictEntry) (kvs : List (Int × Value)) : Prop := IPairs es.toList kvs ∧ (kvs.map (·.1)).Nodup
theorem IDict.one {w : World} {o : Obj} {kvs : List (Int × Value)} (h : o.IsDictOf (PySem.intKind pw w) kvs) : ∃ es ep, o = dictO es ep ∧ IDict es kvs := by
  obtain ⟨es, ep, hx, e, hk, hp, hn⟩ := h
  obtain ⟨c, d, dt, sl⟩ := o
  obtain ⟨e1, e2, e3⟩ := hx
  simp only at e e1 e2 e3
  subst e e1 e2 e3
  exact ⟨es, ep, rfl, IPairs.of hp (fun x hx => hk x (by simpa using hx)), hn⟩
theorem IDict.is {es : Array DictEntry} {kvs : List (Int × Value)} (h : IDict es kvs) (w : World) (ep : Nat) : (dictO es ep).IsDictOf (PySem.intKind pw w) kvs :=
  ⟨es, ep, ⟨rfl, rfl, rfl⟩, rfl, fun x hx => h.1.keys x (by simpa using hx), h.1.pairs, h.2⟩
theorem IDict.nil : IDict #[] [] := ⟨.nil, List.nodup_nil⟩
theorem IDict.size {es : Array DictEntry} {kvs : List (Int × Value)} (h : IDict es kvs) : es.size = kvs.length := by simpa using h.1.length
theorem intIs (w : World) (k : Int) (t : Tok) : (PySem.intKind pw w).is k (.int k t) = true := by simp [PySem.intKind, Value.isInt]
theorem w_itemI {value slice : PySem.Expr} {d : Addr} {es : Array DictEntry} {ep : Nat} {kvs : List (Int × Value)} {k : Int} {t : Tok} {v : Value} {Q : Value → Locs → Led → Prop} (a : At d (dictO es ep) led) (hd : IDict es kvs) (hl : valueAt kvs k = some v) (h : Q v ls led)
    (hs : subscripted slice false (.ref d) (.int k t) = operate [.ref d, .int k t] (getItem (.ref d) (.int k t)) := by with_unfolding_all rfl) (hg : ∀ r, letTemporaryGo value (.ref d) r = pure () := by intro _; with_unfolding_all rfl) :
    WP Γ gl cl ls led (subscriptTail value slice (.ref d) (.int k t)) Q := fun _ _ _ _ st => by
  have hD := Heap.dictOf_iff.mpr ⟨_, st.get a, hd.is Γ.w ep⟩
  exact subscriptTail_builtin hD.typeIs slot_dict_getitem.lookup (wpAny_getItem_of (intIs Γ.w k t) hD.mapOf hl ⟨_, _, _, _, rfl, st, h⟩) hs hg
theorem w_inI {d : Addr} {es : Array DictEntry} {ep : Nat} {kvs : List (Int × Value)} {k : Int} {t : Tok} {Q : Value → Locs → Led → Prop} (a : At d (dictO es ep) led) (hd : IDict es kvs) (lo : (d == sysModules) = false) (h : Q (.bool (valueAt kvs k).isSome) ls led) :
    WP Γ gl cl ls led (compareOp .In (.int k t) (.ref d)) Q := fun _ _ _ _ st => by
  have hD := Heap.dictOf_iff.mpr ⟨_, st.get a, hd.is Γ.w ep⟩
  exact wpAny_in_of (intIs Γ.w k t) lo hD.mapOf ⟨_, _, _, _, rfl, st, h⟩
theorem w_notinI {d : Addr} {es : Array DictEntry} {ep : Nat} {kvs : List (Int × Value)} {k : Int} {t : Tok} {Q : Value → Locs → Led → Prop} (a : At d (dictO es ep) led) (hd : IDict es kvs) (lo : (d == sysModules) = false) (h : Q (.bool (!(valueAt kvs k).isSome)) ls led) :
    WP Γ gl cl ls led (compareOp .NotIn (.int k t) (.ref d)) Q := fun _ _ _ _ st => by
  have hD := Heap.dictOf_iff.mpr ⟨_, st.get a, hd.is Γ.w ep⟩
  exact wpAny_notIn_of (intIs Γ.w k t) lo hD.mapOf ⟨_, _, _, _, rfl, st, h⟩
theorem w_getM {d : Addr} {es : Array DictEntry} {ep : Nat} {pl : Sem Bool} {Q : Value × List Value → Locs → Led → Prop} (a : At d (dictO es ep) led)
    (h : Q (.builtin "dict.get", [.ref d]) ls led) : WP Γ gl cl ls led (getMethod (.ref d) "get" pl) Q := fun _ _ _ _ st =>
  getMethod_builtin ⟨_, st.get a, rfl⟩ PySem.F.plainAttrs_dict PySem.F.slot_dict_get PySem.F.type_dict_get (fun b e => by cases e; exact ⟨_, st.get a, rfl⟩) ⟨_, _, _, _, rfl, st, h⟩
theorem w_getI {d : Addr} {es : Array DictEntry} {ep : Nat} {kvs : List (Int × Value)} {k : Int} {t : Tok} {v : Value} {Q : Value → Locs → Led → Prop} (a : At d (dictO es ep) led) (hd : IDict es kvs) (lo : (d == sysModules) = false) (h : Q ((valueAt kvs k).getD v) ls led) :
    WP Γ gl cl ls led (call (.builtin "dict.get") [.ref d, .int k t, v]) Q := fun _ _ _ _ st => by
  have hD := Heap.dictOf_iff.mpr ⟨_, st.get a, hd.is Γ.w ep⟩
  exact call_meetsIn PySem.F.slot_dict_get hD.typeIs PySem.F.entry_dict_get (PySem.F.args_dict_get_3 _ _ _) (meets_dict_get_default (PySem.intKind pw Γ.w) d (intIs Γ.w k t) lo v) ⟨_, hD.mapOf, ⟨_, _, _, _, rfl, st, h⟩⟩
theorem w_dictD {d : Addr} {es : Array DictEntry} {ep : Nat} {kvs : List (Int × Value)} {Q : Value → Locs → Led → Prop} (a : At d (dictO es ep) led) (hd : IDict es kvs) (lo : (d == sysModules) = false) (hz : kvs.length ≤ 100000)
    (h : ∀ b es' ep', (b == sysModules) = false → IDict es' kvs → Q (.ref b) ls ([(b, dictO es' ep')] :: led)) : WP Γ gl cl ls led (call (.type "dict") [.ref d]) Q := fun ok _ _ _ st => by
  have hD := Heap.dictOf_iff.mpr ⟨_, st.get a, hd.is Γ.w ep⟩
  refine kt_call_dict lo hD (sz_line hz) fun h' hmm hs => ?_
  obtain ⟨o', ho', hd'⟩ := Heap.dictOf_iff.mp hmm
  obtain ⟨es', ep', rfl, hd2⟩ := IDict.one hd'
  exact ⟨h', _, ls, _, rfl, (st.push (dictO #[] 0)).change .head hs ho', h _ _ _ (st.fresh ok) hd2⟩
theorem w_setI {d : Addr} {es : Array DictEntry} {ep : Nat} {kvs : List (Int × Value)} {k : Int} {t : Tok} {v : Value} {Q : Unit → Locs → Led → Prop} (a : At d (dictO es ep) led) (hd : IDict es kvs) (hz : kvs.length ≤ 100000)
    (h : ∀ es' ep', IDict es' (stored kvs k v) → ∃ led', Rep d (dictO es ep) (dictO es' ep') led led' ∧ Q () ls led') :
    WP Γ gl cl ls led (setItem (.ref d) (.int k t) v) Q := fun _ _ _ _ st => by
  refine wpAny_setItem_pairs (hsz := sz_line hz) (intIs Γ.w k t) (Heap.dictOf_iff.mpr ⟨_, st.get a, hd.is Γ.w ep⟩) fun h' hmm hs => ?_
  obtain ⟨o', ho', hd'⟩ := Heap.dictOf_iff.mp hmm
  obtain ⟨es', ep', rfl, hd2⟩ := IDict.one hd'
  obtain ⟨led', r, hq⟩ := h es' ep' hd2
  exact ⟨h', _, ls, led', rfl, st.change r hs ho', hq⟩

-- dicts by tuples of ints
abbrev tHash (ks : List Int) : Int := reduceHash (Builtin.Tuple.tupleHashOf (ks.map hashInt))
abbrev tEnt (x : List Int × Addr × Value) : DictEntry := ⟨tHash x.1, .ref x.2.1, x.2.2⟩
noncomputable abbrev tk (w : World) : HeapKind pw w (List Int) := tupleKind (PySem.intKind pw w)
def TDict (es : Array DictEntry) (xs : List (List Int × Addr × Value)) : Prop := es.toList = xs.map tEnt ∧ (xs.map (·.1)).Nodup
theorem TDict.nil : TDict #[] [] := ⟨rfl, List.nodup_nil⟩
theorem TDict.size {es : Array DictEntry} {xs : List (List Int × Addr × Value)} (h : TDict es xs) : es.size = xs.length := by rw [← Array.length_toList, h.1, List.length_map]
theorem TDict.get {es : Array DictEntry} {xs : List (List Int × Addr × Value)} (h : TDict es xs) {i : Nat} {e : DictEntry} (he : es[i]? = some e) : ∃ k a v, e = tEnt (k, a, v) ∧ xs[i]? = some (k, a, v) := by
  rw [← Array.getElem?_toList, h.1, List.getElem?_map] at he
  cases hx : xs[i]? with
  | none => rw [hx] at he; cases he
  | some x => rw [hx] at he; obtain ⟨k, a, v⟩ := x; exact ⟨k, a, v, (Option.some.inj he).symm, rfl⟩
theorem items_of {w : World} : ∀ {vs : List Value} {ns : List Int}, IntsAre vs ns → ItemsAre (PySem.intKind pw w) ns vs
  | _, _, .nil => .nil
  | _, _, .cons n t h => .cons (intIs w n t) (items_of h)
theorem key_of {w : World} {h : Heap} {a : Addr} {vs : List Value} {ns : List Int} (e : h.get? a = some (tupO vs)) (hi : IntsAre vs ns) : (tk w).is h ns a := ⟨_, vs.toArray, 0, e, rfl, rfl, items_of hi⟩
def Keys (led : Led) (xs : List (List Int × Addr × Value)) : Prop := ∀ x ∈ xs, ∃ vs, At x.2.1 (tupO vs) led ∧ IntsAre vs x.1
theorem St.tdict {h : Heap} {tl : List Ent} (st : St Γ h ls led tl) {d : Addr} {es : Array DictEntry} {ep : Nat} {xs : List (List Int × Addr × Value)} (a : At d (dictO es ep) led) (hd : TDict es xs) (hk : Keys led xs) : h.DictOfH (tk Γ.w) d xs :=
  ⟨_, es, ep, st.get a, ⟨rfl, rfl, rfl⟩, rfl, hd.1, fun x hx => let ⟨_, ha, hi⟩ := hk x hx; key_of (st.get ha) hi, hd.2⟩
theorem TDict.one {w : World} {h : Heap} {d : Addr} {xs : List (List Int × Addr × Value)} (x : h.DictOfH (tk w) d xs) : ∃ es ep, h.get? d = some (dictO es ep) ∧ TDict es xs := by
  obtain ⟨o, es, ep, ho, hx, e, he, _, hn⟩ := x
  obtain ⟨c, dd, dt, sl⟩ := o
  obtain ⟨e1, e2, e3⟩ := hx
  simp only at e e1 e2 e3
  subst e e1 e2 e3
  exact ⟨es, ep, ho, he, hn⟩
theorem Ok.units1 (ok : Γ.Ok gl cl) : (tk Γ.w).room Γ.A.in1 := tupleKind_room_in1 (by have := ok.units; lia)
theorem w_itemT {value slice : PySem.Expr} {d a : Addr} {es : Array DictEntry} {ep : Nat} {xs : List (List Int × Addr × Value)} {vs : List Value} {ns : List Int} {p : Addr × Value} {Q : Value → Locs → Led → Prop} (ad : At d (dictO es ep) led) (hd : TDict es xs) (hk : Keys led xs) (aa : At a (tupO vs) led) (hi : IntsAre vs ns)
    (hl : atKey xs ns = some p) (h : Q p.2 ls led)
    (hs : subscripted slice false (.ref d) (.ref a) = operate [.ref d, .ref a] (getItem (.ref d) (.ref a)) := by with_unfolding_all rfl) (hg : ∀ r, letTemporaryGo value (.ref d) r = pure () := by intro _; with_unfolding_all rfl) :
    WP Γ gl cl ls led (subscriptTail value slice (.ref d) (.ref a)) Q := fun ok _ _ _ st =>
  subscriptTail_builtin (dict_ty (st.get ad)) slot_dict_getitem.lookup (wpAny_getItem_heap (knd := tk Γ.w) (Ok.units1 ok) (key_of (st.get aa) hi) (st.tdict ad hd hk) hl ⟨_, _, _, _, rfl, st, h⟩) hs hg
theorem w_inT {d a : Addr} {es : Array DictEntry} {ep : Nat} {xs : List (List Int × Addr × Value)} {vs : List Value} {ns : List Int} {Q : Value → Locs → Led → Prop} (ad : At d (dictO es ep) led) (lo : (d == sysModules) = false) (hd : TDict es xs) (hk : Keys led xs) (aa : At a (tupO vs) led) (hi : IntsAre vs ns)
    (h : Q (.bool (atKey xs ns).isSome) ls led) : WP Γ gl cl ls led (compareOp .In (.ref a) (.ref d)) Q := fun ok _ _ _ st =>
  wpAny_in_heap (knd := tk Γ.w) (Ok.units1 ok) (key_of (st.get aa) hi) lo (st.tdict ad hd hk) ⟨_, _, _, _, rfl, st, h⟩
theorem w_notinT {d a : Addr} {es : Array DictEntry} {ep : Nat} {xs : List (List Int × Addr × Value)} {vs : List Value} {ns : List Int} {Q : Value → Locs → Led → Prop} (ad : At d (dictO es ep) led) (lo : (d == sysModules) = false) (hd : TDict es xs) (hk : Keys led xs) (aa : At a (tupO vs) led) (hi : IntsAre vs ns)
    (h : Q (.bool (!(atKey xs ns).isSome)) ls led) : WP Γ gl cl ls led (compareOp .NotIn (.ref a) (.ref d)) Q := fun ok _ _ _ st => by
  exact wpAny_notIn_heap (knd := tk Γ.w) (Ok.units1 ok) (key_of (st.get aa) hi) lo (st.tdict ad hd hk) ⟨_, _, _, _, rfl, st, h⟩
theorem w_setT {d a : Addr} {es : Array DictEntry} {ep : Nat} {xs : List (List Int × Addr × Value)} {vs : List Value} {ns : List Int} {v : Value} {Q : Unit → Locs → Led → Prop} (ad : At d (dictO es ep) led) (hd : TDict es xs) (hk : Keys led xs) (aa : At a (tupO vs) led) (hi : IntsAre vs ns) (hz : xs.length ≤ 100000)
    (h : ∀ es' ep', TDict es' (storedH xs ns a v) → ∃ led', Rep d (dictO es ep) (dictO es' ep') led led' ∧ Q () ls led') :
    WP Γ gl cl ls led (setItem (.ref d) (.ref a) v) Q := fun ok _ _ _ st => by
  refine wpAny_setItem_heap (knd := tk Γ.w) (hsz := sz_line hz) (Ok.units1 ok) (key_of (st.get aa) hi) (st.tdict ad hd hk) fun h' hmm hs => ?_
  obtain ⟨es', ep', ho', hd'⟩ := TDict.one hmm
  obtain ⟨led', r, hq⟩ := h es' ep' hd'
  exact ⟨h', _, ls, led', rfl, st.change r hs ho', hq⟩
end

section
variable {Γ : Fm} {gl : List (Str × Value)} {cl : List (Str × Addr)} {ls : Locs} {led led' : Led} {α β : Type}

-- what a value says, told by the ledger
def Rd (led : Led) (v : Value) (d : PyData) : Prop := ∀ h : Heap, (∀ a o, (a, o) ∈ led.flatten → h.get? a = some o) → ∃ as, Reads h v d as
def Rds (led : Led) (vs : List Value) (ds : List PyData) : Prop := ∀ h : Heap, (∀ a o, (a, o) ∈ led.flatten → h.get? a = some o) → ∃ as, ReadsAll h vs ds as
theorem Rd.int (i : Int) (t : Tok) : Rd led (.int i t) (.int i) := fun _ _ => ⟨_, .int i t⟩
theorem Rd.bool (b : Bool) : Rd led (.bool b) (.bool b) := fun _ _ => ⟨_, .bool b⟩
theorem Rds.nil : Rds led [] [] := fun _ _ => ⟨_, .nil⟩
theorem Rds.cons {v : Value} {vs : List Value} {d : PyData} {ds : List PyData} (h1 : Rd led v d) (h2 : Rds led vs ds) : Rds led (v :: vs) (d :: ds) := fun h k =>
  let ⟨_, a⟩ := h1 h k
  let ⟨_, b⟩ := h2 h k
  ⟨_, .cons a b⟩
theorem Rd.tup {a : Addr} {vs : List Value} {ds : List PyData} (x : At a (tupO vs) led) (h1 : Rds led vs ds) : Rd led (.ref a) (.tuple ds) := fun h k =>
  let ⟨_, b⟩ := h1 h k
  ⟨_, .tuple (k _ _ x.mem) rfl rfl (by simpa using b)⟩
theorem Rd.list {a : Addr} {vs : List Value} {n : Nat} {ds : List PyData} (x : At a (listOf vs.toArray n) led) (h1 : Rds led vs ds) : Rd led (.ref a) (.list ds) := fun h k =>
  let ⟨_, b⟩ := h1 h k
  ⟨_, .list (k _ _ x.mem) rfl rfl (by simpa using b)⟩
theorem Rds.ints : ∀ {vs : List Value} {ns : List Int}, IntsAre vs ns → Rds led vs (ns.map .int)
  | _, _, .nil => .nil
  | _, _, .cons n t h => .cons (.int n t) (Rds.ints h)
theorem Rd.mono {v : Value} {d : PyData} (h : Rd led v d) (k : ∀ x ∈ led.flatten, x ∈ led'.flatten) : Rd led' v d := fun hp q => h hp fun a o m => q a o (k _ m)
theorem Rds.mono {v : List Value} {d : List PyData} (h : Rds led v d) (k : ∀ x ∈ led.flatten, x ∈ led'.flatten) : Rds led' v d := fun hp q => h hp fun a o m => q a o (k _ m)
theorem Rds.app {v v' : List Value} {d d' : List PyData} (h : Rds led v d) (h' : Rds led v' d') : Rds led (v ++ v') (d ++ d') := fun hp q => by
  obtain ⟨as, a⟩ := h hp q
  obtain ⟨bs, b⟩ := h' hp q
  clear h h'
  induction d generalizing v as with
  | nil => cases a; exact ⟨_, b⟩
  | cons d ds ih =>
    cases a with
    | cons a1 a2 =>
      obtain ⟨cs, c⟩ := ih _ a2
      exact ⟨_, .cons a1 c⟩
theorem St.holds {h : Heap} {tl : List Ent} (st : St Γ h ls led tl) : ∀ a o, (a, o) ∈ led.flatten → h.get? a = some o := fun _ _ m => st.get (.of_mem m)
theorem w_eqD {a b : Value} {da db : PyData} {Q : Value → Locs → Led → Prop} (ra : Rd led a da) (rb : Rd led b db) (ha : da.canLay0 = true) (hb : db.canLay0 = true) (hd : da.depth ≤ 9) (h : Q (.bool (PyData.eqv da db)) ls led) :
    WP Γ gl cl ls led (compareOp .Eq a b) Q := fun ok hp _ _ st => by
  obtain ⟨_, r1⟩ := ra hp st.holds
  obtain ⟨_, r2⟩ := rb hp st.holds
  refine SeqAt.compareEq_reads r1 r2 ha hb ?_ ⟨_, _, _, _, rfl, st, h⟩
  have := ok.units
  have : min da.depth db.depth ≤ da.depth := Nat.min_le_left _ _
  lia
theorem w_neD {a b : Value} {da db : PyData} {Q : Value → Locs → Led → Prop} (ra : Rd led a da) (rb : Rd led b db) (ha : da.canLay0 = true) (hb : db.canLay0 = true) (hd : da.depth ≤ 9) (h : Q (.bool (!PyData.eqv da db)) ls led) :
    WP Γ gl cl ls led (compareOp .NotEq a b) Q := fun ok hp _ _ st => by
  obtain ⟨_, r1⟩ := ra hp st.holds
  obtain ⟨_, r2⟩ := rb hp st.holds
  refine SeqAt.compareNe_reads r1 r2 ha hb ?_ ⟨_, _, _, _, rfl, st, h⟩
  have := ok.units
  have : min da.depth db.depth ≤ da.depth := Nat.min_le_left _ _
  lia

-- instances
inductive FAre : List DictEntry → List (Str × Value) → Prop
  | nil : FAre [] []
  | cons (x : Str) (t : Tok) (v : Value) (hsh : Int) {es : List DictEntry} {fl : List (Str × Value)} : FAre es fl → FAre (⟨hsh, .str x t, v⟩ :: es) ((x, v) :: fl)
def setF (x : Str) (v : Value) : List (Str × Value) → List (Str × Value)
  | [] => [(x, v)]
  | (y, w) :: r => if y == x then (y, v) :: r else (y, w) :: setF x v r
theorem FAre.noRef {es : List DictEntry} {fl : List (Str × Value)} (h : FAre es fl) : es.any (·.refKey) = false := by
  induction h with
  | nil => rfl
  | cons x t v hsh _ ih => rw [List.any_cons, ih]; rfl
theorem FAre.find {es : List DictEntry} {fl : List (Str × Value)} (h : FAre es fl) (x : Str) : (es.find? (·.key.isStr x)).map (·.val) = fl.lookup x := by
  induction h with
  | nil => rfl
  | @cons y t v hsh es fl h ih =>
    rw [List.find?_cons, List.lookup_cons]
    have e0 : (Value.str y t).isStr x = (y == x) := rfl
    by_cases e : y = x
    · subst e; simp [e0]
    · have e1 : (y == x) = false := by simpa using e
      have e2 : (x == y) = false := by simpa using fun q : x = y => e q.symm
      simp only [e0, e1, e2]
      exact ih
theorem FAre.get {es : List DictEntry} {fl : List (Str × Value)} (h : FAre es fl) (x : Str) : getL x es = some (fl.lookup x) := by
  have q := h.find x
  unfold getL
  cases e : es.find? (·.key.isStr x) with
  | some y => rw [e] at q; simp only [← q]; rfl
  | none => rw [e] at q; simp only [h.noRef, ← q]; rfl
theorem FAre.put {es : List DictEntry} {fl : List (Str × Value)} (h : FAre es fl) (x : Str) (v : Value) (hsh : Int) (t : Tok) : FAre (putL x hsh (.str x t) v es) (setF x v fl) := by
  induction h with
  | nil => exact .cons x t v hsh .nil
  | @cons y u w hs es fl h ih =>
    rw [putL, setF]
    show FAre (if (y == x) = true then _ else _) _
    by_cases e : (y == x) = true
    · rw [if_pos e, if_pos e]; exact .cons y u v hs h
    · rw [if_neg e, if_neg e]; exact .cons y u w hs ih
theorem FAre.len {es : List DictEntry} {fl : List (Str × Value)} (h : FAre es fl) : es.length = fl.length := by
  induction h with
  | nil => rfl
  | cons _ _ _ _ _ ih => simp [ih]

theorem St.inst {h : Heap} {tl : List Ent} (st : St Γ h ls led tl) {x C dx : Addr} {es : List DictEntry} {n : Nat} (a : At x (instObj C dx) led) (b : At dx (dictOf es n) led) : InstAt h x (instObj C dx) C (some (dictOf es n)) :=
  ⟨st.get a, rfl, rfl, st.get b⟩
abbrev KAttr (Γ : Fm) (gl : List (Str × Value)) (cl : List (Str × Addr)) (nm : Str) (Q : Value → Locs → Led → Prop) (ov : Value) (ls1 : Locs) (led1 : Led) : Prop := WP Γ gl cl ls1 led1 (getAttr ov nm true) Q
theorem w_Attr {o : PySem.Expr} {nm : Str} {pos : Pos} {Q : Value → Locs → Led → Prop} (H : WP Γ gl cl ls led (eval o Γ.env) (KAttr Γ gl cl nm Q))
    (he : eval (.Attribute o nm pos) Γ.env = (do
      let ov ← eval o Γ.env
      standAt pos.atName
      let r ← holding [ov] (getAttr ov nm true)
      letTemporaryGo o ov r
      pure r) := by with_unfolding_all rfl) : WP Γ gl cl ls led (eval (.Attribute o nm pos) Γ.env) Q :=
  fun ok _ _ _ st => Attribute_any_ (H.run ok st fun _ _ _ _ _ st1 H1 => H1 ok _ _ _ st1) he
theorem w_getOwn {x C dx : Addr} {es : List DictEntry} {n : Nat} {fl : List (Str × Value)} {nm : Str} {v : Value} {attr : Option Value} {ex : Bool} {Q : Value → Locs → Led → Prop} (a : At x (instObj C dx) led) (b : At dx (dictOf es n) led) (hf : FAre es fl) (hl : fl.lookup nm = some v) (hv : handedIn v = true)
    (hK : ∀ p, plainGet (hK p) C nm = true ∧ hasDictIn (hK p) C = true ∧ findIn (hK p) (.ref C) nm = some attr ∧ noGet (hK p) attr = true) (h : Q v ls led) : WP Γ gl cl ls led (getAttr (.ref x) nm ex) Q := fun ok _ _ _ st => by
  obtain ⟨k1, k2, k3, k4⟩ := hK Γ.w.params
  obtain ⟨m, ex, F, N, nd, back⟩ := st.lift
  exact get_own F ok.kin (st.inst a b) k1 k2 k3 k4 ((hf.get nm).trans (by rw [hl])) hv ⟨_, _, _, _, rfl, st, h⟩
theorem w_getCls {x C dx : Addr} {es : List DictEntry} {n : Nat} {fl : List (Str × Value)} {nm : Str} {v : Value} {ex : Bool} {Q : Value → Locs → Led → Prop} (a : At x (instObj C dx) led) (b : At dx (dictOf es n) led) (hf : FAre es fl) (hl : fl.lookup nm = none)
    (hK : ∀ p, plainGet (hK p) C nm = true ∧ hasDictIn (hK p) C = true ∧ findIn (hK p) (.ref C) nm = some (some v) ∧ specialIn (hK p) v "__get__" = some none ∧ handedIn v = true) (hc : copiedNames.contains nm = false) (h : Q v ls led) : WP Γ gl cl ls led (getAttr (.ref x) nm ex) Q := fun ok _ _ _ st => by
  obtain ⟨k1, k2, k3, k4, k5⟩ := hK Γ.w.params
  obtain ⟨m, ex, F, N, nd, back⟩ := st.lift
  exact get_cls F ok.kin (st.inst a b) k1 k2 k3 k4 k5 hc ((hf.get nm).trans (by rw [hl])) ⟨_, _, _, _, rfl, st, h⟩
theorem w_getM2 {x C dx f : Addr} {es : List DictEntry} {n : Nat} {fl : List (Str × Value)} {nm : Str} {pl : Sem Bool} {Q : Value × List Value → Locs → Led → Prop} (a : At x (instObj C dx) led) (b : At dx (dictOf es n) led) (hf : FAre es fl) (hl : fl.lookup nm = none)
    (hK : ∀ p, plainGet (hK p) C nm = true ∧ findIn (hK p) (.ref C) nm = some (some (.ref f)) ∧ isFn (hK p) (.ref f) = true) (h : Q (.ref f, [.ref x]) ls led) : WP Γ gl cl ls led (getMethod (.ref x) nm pl) Q := fun ok _ _ _ st => by
  obtain ⟨k1, k2, k3⟩ := hK Γ.w.params
  obtain ⟨m, ex, F, N, nd, back⟩ := st.lift
  exact method_inst F ok.kin (st.inst a b) k1 k2 k3 ((hf.get nm).trans (by rw [hl])) ⟨_, _, _, _, rfl, st, h⟩
abbrev KAssignAttr (Γ : Fm) (gl : List (Str × Value)) (cl : List (Str × Addr)) (Q : Flow → Locs → Led → Prop) (_x : Unit) (ls3 : Locs) (led3 : Led) : Prop := Q .next ls3 led3
abbrev KAssignAttr2 (Γ : Fm) (gl : List (Str × Value)) (cl : List (Str × Addr)) (nm : Str) (Q : Flow → Locs → Led → Prop) (v : Value) (ov : Value) (ls2 : Locs) (led2 : Led) : Prop := WP Γ gl cl ls2 led2 (setAttr ov nm v) (KAssignAttr Γ gl cl Q)
abbrev KAssignAttr3 (Γ : Fm) (gl : List (Str × Value)) (cl : List (Str × Addr)) (o : PySem.Expr) (nm : Str) (Q : Flow → Locs → Led → Prop) (v : Value) (ls1 : Locs) (led1 : Led) : Prop := WP Γ gl cl ls1 led1 (eval o Γ.env) (KAssignAttr2 Γ gl cl nm Q v)
theorem w_AssignAttr {o value : PySem.Expr} {nm : Str} {pos' pos : Pos} {Q : Flow → Locs → Led → Prop}
    (H : WP Γ gl cl ls led (eval value Γ.env) (KAssignAttr3 Γ gl cl o nm Q))
    (hs : swapsWith value (some (.Attribute o nm pos')) pos.line Γ.env = pure false := by rfl) : WP Γ gl cl ls led (exec (.Assign [.Attribute o nm pos'] value pos) Γ.env) Q :=
  fun ok _ _ _ st => plainObj_wpAny_Assign_Attribute (H.run ok st fun _ _ _ _ _ st1 H1 => H1.run ok st1 fun _ _ _ _ _ st2 H2 => H2.run ok st2 fun _ _ _ _ _ st3 H3 => ⟨_, _, _, _, rfl, st3, H3⟩) hs
theorem w_setOwn {x C dx : Addr} {es : List DictEntry} {n : Nat} {fl : List (Str × Value)} {nm : Str} {v : Value} {Q : Unit → Locs → Led → Prop} (a : At x (instObj C dx) led) (b : At dx (dictOf es n) led) (hf : FAre es fl) (hz : fl.length ≤ 900)
    (hK : ∀ p, findIn (hK p) (.ref C) "__setattr__" = some (some (.builtin "object.__setattr__")) ∧ plainOver (hK p) C = true ∧ takerIn (hK p) C nm = some none ∧ hasDictIn (hK p) C = true)
    (h : ∀ es' n', FAre es' (setF nm v fl) → ∃ led', Rep dx (dictOf es n) (dictOf es' n') led led' ∧ Q () ls led') : WP Γ gl cl ls led (setAttr (.ref x) nm v) Q := fun ok hp tk tl st => by
  obtain ⟨k1, k2, k3, k4⟩ := hK Γ.w.params
  obtain ⟨m, ex, F, N, nd, back⟩ := st.lift
  have hf' := hf.put nm v (PyData.keyHash Γ.w.params nm) (tk + 1)
  obtain ⟨led', r, hq⟩ := h _ (putN nm es n) hf'
  obtain ⟨U, nd'⟩ := r.upd nd
  have hlen : (setF nm v fl).length ≤ 1000 := by
    have : ∀ l : List (Str × Value), (setF nm v l).length ≤ l.length + 1 := by
      intro l
      induction l with
      | nil => exact Nat.le_refl _
      | cons p r ih =>
        obtain ⟨y, w⟩ := p
        rw [setF]
        split
        · simp
        · simp only [List.length_cons]; lia
    have := this fl
    lia
  exact set_dict F ok.kin N (st.inst a b) rfl k1 k2 k3 k4 (by rw [hf.get]; rfl) rfl U (by rw [hf'.len]; exact hlen) fun h' F' N' => ⟨h', _, ls, led', rfl, back h' led' F' N' nd', hq⟩

/-- an object of a class is made: the class's __init__ has a contract -/
theorem w_callCls {n : Nat} {C fI : Addr} {args : List Value} {fp rest : Led} {P : Addr → Addr → Value → Led → Prop} {Q : Value → Locs → Led → Prop}
    (I : ∀ x dx, Fn n fI (.ref x :: args) ([(x, instObj C dx)] :: [(dx, dictOf [] 0)] :: fp) (P x dx)) (hn : n + 1 ≤ Γ.room)
    (hK : ∀ p, makesIn (hK p) C = true ∧ findIn (hK p) (.ref C) "__init__" = some (some (.ref fI)) ∧ isFn (hK p) (.ref fI) = true) (pk : Picks led fp rest)
    (k : ∀ x dx v fp', P x dx v fp' → v = .none ∧ Q (.ref x) ls (fp' ++ rest)) : WP Γ gl cl ls led (call (.ref C) args) Q := fun ok h tk tl st => by
  obtain ⟨k1, k2, k3⟩ := hK Γ.w.params
  have hst := st
  obtain ⟨m, ex, F, N, nd, lc⟩ := hst
  refine call_cls F ok.kin N k1 k2 k3 fun x dx h' F' N' l1 l2 => ?_
  have hlt : ∀ p ∈ led.flatten ++ (ex ++ tl), p.1 < dx := l1
  have nd' : (((x, instObj C dx) :: (dx, dictOf [] 0) :: (led.flatten ++ (ex ++ tl))).map (·.1)).Nodup := by
    rw [List.map_cons, List.map_cons, List.nodup_cons, List.nodup_cons]
    refine ⟨fun q => ?_, fun q => ?_, nd⟩
    · rcases List.mem_cons.mp q with q | q
      · exact absurd l2 (by rw [show x = dx from q]; exact Nat.lt_irrefl _)
      · obtain ⟨p, hp, e⟩ := List.mem_map.mp q
        exact absurd (Nat.lt_trans (hlt p hp) l2) (by rw [e]; exact Nat.lt_irrefl _)
    · obtain ⟨p, hp, e⟩ := List.mem_map.mp q
      exact absurd (hlt p hp) (by rw [e]; exact Nat.lt_irrefl _)
  have st' : St Γ h' ls ([(x, instObj C dx)] :: [(dx, dictOf [] 0)] :: led) tl := ⟨m, ex, F', N', nd', lc⟩
  have q : (([(x, instObj C dx)] :: [(dx, dictOf [] 0)] :: led).flatten ++ tl).Perm (([(x, instObj C dx)] :: [(dx, dictOf [] 0)] :: fp).flatten ++ (rest.flatten ++ tl)) := by
    rw [← List.append_assoc, ← List.flatten_append]
    exact List.Perm.append_right _ ((pk.perm.cons _).cons _).flatten
  let Γ' : Fm := { Γ with A := Γ.A.under (.builtin "type.__call__" ⟨.ref C :: args, []⟩), room := Γ.room - 1 }
  have hdp := ok.depth
  have hun := ok.units
  have ok' : Γ'.Ok gl cl := by
    refine ⟨ok.below, ok.kin, ok.top, ok.frames, ok.ffr, ok.fkind, ok.hnd, ?_, ?_, ok.kind, ok.glob, ok.bult, ok.glok, ok.clok, ok.plain⟩
    · show Γ.A.depth + 1 + (Γ.room - 1) < recursionLimit; lia
    · have : (Code.builtin "type.__call__" ⟨.ref C :: args, []⟩).cUnits ≤ 9 := Nat.le_of_ble_eq_true rfl
      show Γ.A.units + (Code.builtin "type.__call__" ⟨.ref C :: args, []⟩).cUnits + 10 * (Γ.room - 1 + 1) < cLine
      lia
  refine codeAny_mono (I x dx Γ' gl cl ls (by show n ≤ Γ.room - 1; lia) ok' h' tk _ (st'.perm q)) ?_
  rintro r s' ⟨v, h2, tk2, led2, rfl, rfl, st2, hp⟩
  obtain ⟨rfl, hq⟩ := k _ _ _ _ hp
  exact ⟨rfl, h2, tk2, ls, led2 ++ rest, rfl, st2.perm (by rw [List.flatten_append, List.append_assoc]), hq⟩
end

section
variable {Γ : Fm} {gl : List (Str × Value)} {cl : List (Str × Addr)} {ls : Locs} {led led' : Led} {α β : Type}
theorem WP.regroup {t : Sem α} {Q : α → Locs → Led → Prop} (e : led.flatten = led'.flatten) (H : WP Γ gl cl ls led' t Q) : WP Γ gl cl ls led t Q := fun ok h tk tl st =>
  H ok h tk tl (st.perm (by rw [e]))
theorem Picks.mem {l fp r : Led} (p : Picks l fp r) : ∀ x ∈ fp.flatten, x ∈ l.flatten := fun _ hx => p.perm.flatten.mem_iff.mpr (by rw [List.flatten_append]; exact List.mem_append_left _ hx)
theorem Picks.at {l fp r : Led} (p : Picks l fp r) {a : Addr} {o : Obj} (x : At a o fp) : At a o l := .of_mem (p.mem _ x.mem)

structure Wk3 (Γ : Fm) (gl : List (Str × Value)) (cl : List (Str × Addr)) (target : PySem.Expr) (it : Value) (n : Nat) (P : Nat → Value → List Ent → Prop) (its : Nat → List Ent → Prop) (kp : Led → Prop) : Prop where
  item : ∀ i c led ls, i < n → its i c → kp led → WP Γ gl cl ls (c :: led) (pyNext it) (fun r ls' led' => ∃ v, r = some v ∧ ls' = ls ∧ WP Γ gl cl ls led' (letOwnedTupleGo target it v) (fun _ ls'' led'' => ls'' = ls ∧ ∃ c' own, led'' = c' :: own :: led ∧ its (i + 1) c' ∧ P i v own))
  done : ∀ c led ls, its n c → kp led → WP Γ gl cl ls (c :: led) (pyNext it) (fun r ls' led' => r = none ∧ led' = led ∧ ls' = ls)
def IterOf3 (Γ : Fm) (gl : List (Str × Value)) (cl : List (Str × Addr)) (ls : Locs) (led : Led) (target : PySem.Expr) (xv : Value) (n : Nat) (P : Nat → Value → List Ent → Prop) (kp : Led → Prop) (led0 : Led) : Prop :=
  WP Γ gl cl ls led (pyIter xv) (fun it ls' led' => ls' = ls ∧ ∃ its c, led' = c :: led0 ∧ its 0 c ∧ Wk3 Γ gl cl target it n P its kp)
theorem Wk.three {it : Value} {n : Nat} {P : Nat → Value → Prop} {its : Nat → List Ent → Prop} {kp : Led → Prop} {target : PySem.Expr} (W : Wk Γ gl cl it n P its kp) (ht : ∀ v, letOwnedTupleGo target it v = pure ()) :
    Wk3 Γ gl cl target it n (fun i v own => P i v ∧ own = []) its kp where
  item := fun i c led ls hi hc hk => (W.item i c led ls hi hc hk).mono fun r _ _ ⟨v, c', e1, hp, hc', e2, e3⟩ => by
    subst e1 e2 e3
    refine ⟨v, rfl, rfl, ?_⟩
    rw [ht v]
    exact WP.regroup (led' := c' :: [] :: led) (by simp) (WP.pure ⟨rfl, c', [], rfl, hc', hp, rfl⟩)
  done := W.done
theorem IterOf.three {xv : Value} {n : Nat} {P : Nat → Value → Prop} {kp : Led → Prop} {target : PySem.Expr} (W : IterOf Γ gl cl ls led xv n P kp) (ht : ∀ it v, letOwnedTupleGo target it v = pure ()) : IterOf3 Γ gl cl ls led target xv n (fun i v own => P i v ∧ own = []) kp led :=
  WP.mono W fun it ls' led' ⟨e, its, c, e2, h0, w⟩ => ⟨e, its, c, e2, h0, w.three (ht it)⟩

/-- a loop by an invariant; what the body leaves lying may be forgotten -/
inductive ForIter3 (Γ : Fm) (gl : List (Str × Value)) (cl : List (Str × Addr)) (target : PySem.Expr) (body : List Stmt) (Q : Flow → Locs → Led → Prop) (xv : Value) (ls1 : Locs) (led1 : Led) : Prop
  | mk (n : Nat) (P : Nat → Value → List Ent → Prop) (kp : Led → Prop) (I : Nat → Locs → Led → Prop) (led0 : Led) (it : IterOf3 Γ gl cl ls1 led1 target xv n P kp led0) (h0 : Drop (I 0 ls1) led0) (hk : ∀ i ls led, I i ls led → kp led)
      (step : ∀ i v own ls led, i < n → P i v own → I i ls led → WP Γ gl cl ls (own :: led) (assign target Γ.env v) (fun _ ls2 led2 => WP Γ gl cl ls2 led2 (execs body Γ.env) (fun f ls3 led3 => match f with
        | .next | .cont => Drop (I (i + 1) ls3) led3
        | .brk => Q .next ls3 led3
        | .ret r => Q (.ret r) ls3 led3)))
      (done : ∀ ls led, I n ls led → Q .next ls led) : ForIter3 Γ gl cl target body Q xv ls1 led1
inductive FI (Γ : Fm) (tl : List Ent) (n : Nat) (its : Nat → List Ent → Prop) (I : Nat → Locs → Led → Prop) : Nat → Shared → Prop
  | mk (i : Nat) (h : Heap) (tk : Nat) (ls : Locs) (led : Led) (c : List Ent) (st : St Γ h ls (c :: led) tl) (hc : its i c) (hI : I i ls led) (hle : i ≤ n) : FI Γ tl n its I (n + 1 - i) ⟨h, Γ.gens, Γ.drawn, tk, Γ.os⟩
theorem St.forget {h : Heap} {tl c : List Ent} (st : St Γ h ls led (c ++ tl)) : St Γ h ls led tl := by
  obtain ⟨m, ex, F, N, nd, lc⟩ := st
  have hs : (led.flatten ++ (ex ++ tl)).Sublist (led.flatten ++ (ex ++ (c ++ tl))) := List.Sublist.append_left (List.Sublist.append_left (List.sublist_append_right _ _) _) _
  exact ⟨m, ex, F, fun x hx => N x (hs.subset hx), (hs.map _).nodup nd, lc⟩
theorem Wk3.itemGo {it : Value} {n i : Nat} {P : Nat → Value → List Ent → Prop} {its : Nat → List Ent → Prop} {kp : Led → Prop} {target : PySem.Expr} {c : List Ent} {h : Heap} {tk : Nat} {tl : List Ent} {E : Value → Shared → Prop} (W : Wk3 Γ gl cl target it n P its kp) (hi : i < n) (hc : its i c) (hk : kp led) (ok : Γ.Ok gl cl) (st : St Γ h ls (c :: led) tl) {R : Option Value → Shared → Prop}
    (k : ∀ v h' tk' led', St Γ h' ls led' tl → (∀ {R : Unit → Shared → Prop} {E : Value → Shared → Prop}, Γ.Ok gl cl → ∀ h tk tl, St Γ h ls led' tl → (∀ h' tk' c' own, St Γ h' ls (c' :: own :: led) tl → its (i + 1) c' → P i v own → R () ⟨h', Γ.gens, Γ.drawn, tk', Γ.os⟩) → wpAny (model pw Γ.w) Γ.A (letOwnedTupleGo target it v) R E ⟨h, Γ.gens, Γ.drawn, tk, Γ.os⟩) →
      R (some v) ⟨h', Γ.gens, Γ.drawn, tk', Γ.os⟩) : wpAny (model pw Γ.w) Γ.A (pyNext it) R E ⟨h, Γ.gens, Γ.drawn, tk, Γ.os⟩ :=
  (W.item i c led ls hi hc hk).go ok st (by
    rintro r h2 tk2 ls2 led2 st2 ⟨v, rfl, rfl, w⟩
    refine k v h2 tk2 led2 st2 fun {R E} ok h tk tl st k2 => w.go ok st ?_
    rintro _ h4 tk4 ls4 led4 st4 ⟨rfl, c3, own, rfl, hc3, hP⟩
    exact k2 h4 tk4 c3 own st4 hc3 hP)
theorem Wk3.doneGo {it : Value} {n : Nat} {P : Nat → Value → List Ent → Prop} {its : Nat → List Ent → Prop} {kp : Led → Prop} {target : PySem.Expr} {c : List Ent} {h : Heap} {tk : Nat} {tl : List Ent} {E : Value → Shared → Prop} (W : Wk3 Γ gl cl target it n P its kp) (hc : its n c) (hk : kp led) (ok : Γ.Ok gl cl) (st : St Γ h ls (c :: led) tl) {R : Option Value → Shared → Prop}
    (k : ∀ h' tk', St Γ h' ls led tl → R none ⟨h', Γ.gens, Γ.drawn, tk', Γ.os⟩) : wpAny (model pw Γ.w) Γ.A (pyNext it) R E ⟨h, Γ.gens, Γ.drawn, tk, Γ.os⟩ :=
  (W.done c led ls hc hk).go ok st (by rintro r h2 tk2 ls2 led2 st2 ⟨rfl, rfl, rfl⟩; exact k h2 tk2 st2)
theorem w_for3 {target iter : PySem.Expr} {body : List Stmt} {pos : Pos} {Q : Flow → Locs → Led → Prop}
    (H : WP Γ gl cl ls led (eval iter Γ.env) (ForIter3 Γ gl cl target body Q))
    (hs : ∀ x, foldedSetIterable iter Γ.env x = pure x := by intro _; rfl) : WP Γ gl cl ls led (exec (.For target iter body [] pos) Γ.env) Q := fun ok h tk tl st => by
  refine wpAny_For (H.run ok st fun xv h1 tk1 ls1 led1 st1 ⟨n, P, keep, I, led0, hIt, hI0, hk, step, done⟩ => WP.run hIt ok st1 fun it h2 tk2 ls2 led2 st2 hq => ?_) hs
  obtain ⟨rfl, its, c, rfl, hc, W⟩ := hq
  obtain ⟨led1', r0, pk0, hI0⟩ := hI0
  replace st2 := (st2.swapIn.dropF pk0).swapOut
  refine codeAny_forLoop_any (FI Γ tl n its I) ?_ (n + 1) (.mk 0 h2 tk2 ls2 led1' c st2 hc hI0 (Nat.zero_le _))
  rintro k s' ⟨i, h', tk', ls', led', c', st', hc', hI', hi⟩
  by_cases hlt : i < n
  · refine W.itemGo hlt hc' (hk _ _ _ hI') ok st' fun v h3 tk3 led3 st3 w => w ok _ _ _ st3 fun h4 tk4 c3 own st4 hc3 hP => ?_
    refine WP.go (step i v own ls' led' hlt hP hI') ok st4.swapIn fun _ h5 tk5 ls5 led5 st5 H4 => H4.go ok st5 fun f h6 tk6 ls6 led6 st6 hq => ?_
    have dr : St Γ h6 ls6 led6 tl := st6.forget
    have nx : Drop (I (i + 1) ls6) led6 → ∃ m, m < n + 1 - i ∧ FI Γ tl n its I m ⟨h6, Γ.gens, Γ.drawn, tk6, Γ.os⟩ := fun ⟨l, r, pk, hI⟩ =>
      ⟨n + 1 - (i + 1), Nat.sub_lt_sub_left (Nat.lt_succ_of_lt hlt) (Nat.lt_succ_self i), .mk (i + 1) h6 tk6 ls6 l c3 (st6.dropF pk).swapOut hc3 hI hlt⟩
    cases f with
    | next => exact nx hq
    | cont => exact nx hq
    | brk => exact ⟨h6, tk6, ls6, led6, rfl, dr, hq⟩
    | ret r => exact ⟨h6, tk6, ls6, led6, rfl, dr, hq⟩
  · obtain rfl : i = n := Nat.le_antisymm hi (Nat.le_of_not_lt hlt)
    exact W.doneGo hc' (hk _ _ _ hI') ok st' fun h3 tk3 st3 => wpAny_execs_nil ⟨h3, tk3, ls', led', rfl, st3, done _ _ hI'⟩

-- unpacking
def NC : Flow → Prop
  | .next => True
  | .cont => True
  | _ => False
inductive ForIter (Γ : Fm) (gl : List (Str × Value)) (cl : List (Str × Addr)) (target : PySem.Expr) (body : List Stmt) (Q : Flow → Locs → Led → Prop) (xv : Value) (ls1 : Locs) (led1 : Led) : Prop
  | mk (n : Nat) (P : Nat → Value → List Ent → Prop) (kp : Led → Prop) (I : Nat → Locs → Led → Prop) (led0 : Led) (it : IterOf3 Γ gl cl ls1 led1 target xv n P kp led0) (h0 : Drop (I 0 ls1) led0) (hk : ∀ i ls led, I i ls led → kp led)
      (step : ∀ i v own ls led (K : Flow → Locs → Led → Prop), i < n → P i v own → I i ls led → (∀ f ls3 led3, NC f → Drop (I (i + 1) ls3) led3 → K f ls3 led3) → (∀ r ls3 led3, Q (.ret r) ls3 led3 → K (.ret r) ls3 led3) →
        WP Γ gl cl ls (own :: led) (assign target Γ.env v) (fun _ ls2 led2 => WP Γ gl cl ls2 led2 (execs body Γ.env) K))
      (done : ∀ ls led, I n ls led → Q .next ls led) : ForIter Γ gl cl target body Q xv ls1 led1
theorem w_for4 {target iter : PySem.Expr} {body : List Stmt} {pos : Pos} {Q : Flow → Locs → Led → Prop}
    (H : WP Γ gl cl ls led (eval iter Γ.env) (ForIter Γ gl cl target body Q))
    (hs : ∀ x, foldedSetIterable iter Γ.env x = pure x := by intro _; rfl) : WP Γ gl cl ls led (exec (.For target iter body [] pos) Γ.env) Q :=
  w_for3 (H.mono fun xv ls1 led1 ⟨n, P, kp, I, led0, a, b, c, step, done⟩ => .mk n P kp I led0 a b c (fun i v own ls led hi hP hI => step i v own ls led _ hi hP hI (fun f ls3 led3 nc d => by
    cases f with
    | next => exact d
    | cont => exact d
    | brk => exact nc.elim
    | ret _ => exact nc.elim) (fun r _ _ h => h)) done) hs

theorem w_assignTup {elts : List PySem.Expr} {k : Nat} {pos : Pos} {t : Addr} {vs : List Value} {Q : Unit → Locs → Led → Prop} (a : At t (tupO vs) led) (hn : (assignEach elts Γ.env).length = vs.length) (hstar : (assignEach elts Γ.env).findIdx? (·.1) = none)
    (H : WP Γ gl cl ls led (assignInOrder ((assignEach elts Γ.env).map (·.2)) vs) Q) : WP Γ gl cl ls led (assign (.Tuple elts k pos) Γ.env (.ref t)) Q := fun ok hp0 tk0 tl0 st => by
  refine wpAny_assign_Tuple ok.hnd (w_isTuple st a) (by rw [hn]; simp) hstar fun h' hx => ?_
  have st' : St Γ h' ls led tl0 := by
    obtain ⟨m, ex, F, N, nd, lc⟩ := st
    exact ⟨m, ex, F.extBut hx (Nat.le_refl _), fun p hp => ⟨hx _ _ (fun e => absurd (Heap.lt_size (N p hp).1) (by rw [e]; exact Nat.lt_irrefl _)) (N p hp).1, (N p hp).2⟩, nd, lc⟩
  exact H ok _ _ _ st'
abbrev KinOrder_cons (Γ : Fm) (gl : List (Str × Value)) (cl : List (Str × Addr)) (es : List PySem.Expr) (xs : List Value) (Q : Unit → Locs → Led → Prop) (_x : Unit) (ls1 : Locs) (led1 : Led) : Prop := WP Γ gl cl ls1 led1 (assignInOrder ((assignEach es Γ.env).map (·.2)) xs) Q
theorem w_inOrder_cons {e : PySem.Expr} {es : List PySem.Expr} {x : Value} {xs : List Value} {Q : Unit → Locs → Led → Prop} (he : assignEach (e :: es) Γ.env = (false, assign e Γ.env) :: assignEach es Γ.env)
    (H : WP Γ gl cl ls led (assign e Γ.env x) (KinOrder_cons Γ gl cl es xs Q)) : WP Γ gl cl ls led (assignInOrder ((assignEach (e :: es) Γ.env).map (·.2)) (x :: xs)) Q := fun ok _ _ _ st => by
  rw [he]
  show wpAny _ _ (do holding xs (assign e Γ.env x); assignInOrder ((assignEach es Γ.env).map (·.2)) xs) _ _ _
  exact wpAny_bind (wpAny_holding (H.run ok st fun _ _ _ _ _ st1 H1 => H1 ok _ _ _ st1))
theorem w_inOrder_nil {Q : Unit → Locs → Led → Prop} (h : Q () ls led) : WP Γ gl cl ls led (assignInOrder ((assignEach [] Γ.env).map (·.2)) []) Q := fun _ _ _ _ st => wpAny_pure ⟨_, _, _, _, rfl, st, h⟩
/-- a, b = row, where no stores are swapped -/
abbrev KAssignUn (Γ : Fm) (gl : List (Str × Value)) (cl : List (Str × Addr)) (Q : Flow → Locs → Led → Prop) (_x : Unit) (ls2 : Locs) (led2 : Led) : Prop := Q .next ls2 led2
abbrev KAssignUn2 (Γ : Fm) (gl : List (Str × Value)) (cl : List (Str × Addr)) (elts : List PySem.Expr) (k : Nat) (tpos : Pos) (Q : Flow → Locs → Led → Prop) (v : Value) (ls1 : Locs) (led1 : Led) : Prop := WP Γ gl cl ls1 led1 (assign (.Tuple elts k tpos) Γ.env v) (KAssignUn Γ gl cl Q)
theorem w_AssignUn {elts : List PySem.Expr} {k : Nat} {tpos pos : Pos} {value : PySem.Expr} {Q : Flow → Locs → Led → Prop}
    (H : WP Γ gl cl ls led (eval value Γ.env) (KAssignUn2 Γ gl cl elts k tpos Q))
    (hs : swapsWithSole [.Tuple elts k tpos] value pos.line Γ.env = pure false := by rfl)
    (hw : swappedStores [.Tuple elts k tpos] value Γ.env = pure none := by rfl) : WP Γ gl cl ls led (exec (.Assign [.Tuple elts k tpos] value pos) Γ.env) Q := fun ok _ _ _ st =>
  Assign_Tuple (H.run ok st fun _ _ _ _ _ st1 H1 => H1.run ok st1 fun _ _ _ _ _ st2 H2 => ⟨_, _, _, _, rfl, st2, H2⟩) hs hw
theorem w_bind {x : Str} {v : Value} {Q : Unit → Locs → Led → Prop} (H : WP Γ gl cl ls led (storeName Γ.env x v) Q) : WP Γ gl cl ls led (bindName Γ.env x v) Q := fun ok _ _ _ st => bindName_ (H ok _ _ _ st)
/-- a, b = x, y with the stores swapped -/
abbrev KAssignSw (Γ : Fm) (gl : List (Str × Value)) (cl : List (Str × Addr)) (Q : Flow → Locs → Led → Prop) (_x : Unit) (ls3 : Locs) (led3 : Led) : Prop := Q .next ls3 led3
abbrev KAssignSw2 (Γ : Fm) (gl : List (Str × Value)) (cl : List (Str × Addr)) (a : Str) (Q : Flow → Locs → Led → Prop) (x : Value) (_x : Unit) (ls2 : Locs) (led2 : Led) : Prop := WP Γ gl cl ls2 led2 (storeName Γ.env a x) (KAssignSw Γ gl cl Q)
abbrev KAssignSw3 (Γ : Fm) (gl : List (Str × Value)) (cl : List (Str × Addr)) (a : Str) (b : Str) (Q : Flow → Locs → Led → Prop) (v : Value) (ls1 : Locs) (led1 : Led) : Prop := ∃ t x y, v = .ref t ∧ At t (tupO [x, y]) led1 ∧ WP Γ gl cl ls1 led1 (storeName Γ.env b y) (KAssignSw2 Γ gl cl a Q x)
theorem w_AssignSw {a b : Str} {pa pb tpos pos : Pos} {k k2 : Nat} {vpos : Pos} {va vb : PySem.Expr} {oa ob : Option Value} {Q : Flow → Locs → Led → Prop} (ha : ls.lookup a = some oa) (hb : ls.lookup b = some ob)
    (H : WP Γ gl cl ls led (eval (.Tuple [va, vb] k2 vpos) Γ.env) (KAssignSw3 Γ gl cl a b Q))
    (hw : ∀ env : Env, env.blockKind = .function → env.kindOf a = some .local → env.kindOf b = some .local → swappedStores [.Tuple [.Name a pa, .Name b pb] k tpos] (.Tuple [va, vb] k2 vpos) env = pure (some [a, b])) :
    WP Γ gl cl ls led (exec (.Assign [.Tuple [.Name a pa, .Name b pb] k tpos] (.Tuple [va, vb] k2 vpos) pos) Γ.env) Q := fun ok hp0 tk0 tl0 st => by
  have bk : Γ.env.blockKind = .function := by unfold Env.blockKind; rw [ok.kind]; rfl
  refine Assign_Tuple_swapped (names := [a, b]) (H.run ok st fun v hp1 tk1 ls1 led1 st1 H1 => ?_) rfl (hw _ bk (st.kind ha).1 (st.kind hb).1)
  obtain ⟨t, x, y, rfl, ht, H2⟩ := H1
  have hst := st1
  obtain ⟨m, ex, F, N, nd, lc⟩ := hst
  refine unpackItems_tuple (items := #[x, y]) ok.hnd (w_isTuple st1 ht) fun h' hx => ?_
  have st' : St Γ h' ls1 led1 tl0 := ⟨m, ex, F.extBut hx (Nat.le_refl _), fun p hp => ⟨hx _ _ (fun e => absurd (Heap.lt_size (N p hp).1) (by rw [e]; exact Nat.lt_irrefl _)) (N p hp).1, (N p hp).2⟩, nd, lc⟩
  show wpAny _ _ (do holding [x] (bindName Γ.env b y); (do holding [] (bindName Γ.env a x); pure ())) _ _ _
  refine wpAny_bind (wpAny_holding (H2.run ok st' (fun _ _ _ _ _ st2 H3 => ?_) |> bindName_))
  refine wpAny_bind (wpAny_holding (bindName_ (H3.run ok st2 (fun _ _ _ _ _ st3 H4 => wpAny_pure ⟨_, _, _, _, rfl, st3, H4⟩))))
end

/-- the cells that a comprehension's block takes over -/
def freeOf (cl : List (Str × Addr)) : List (Str × NameKind) → List (Str × Addr) → Option (List (Str × Addr))
  | [], acc => some acc
  | (x, k) :: r, acc => if k == .free then (match cl.lookup x with | some c => freeOf cl r ((x, c) :: acc) | none => none) else freeOf cl r acc
theorem closure_of {env : Env} {cl : List (Str × Addr)} (h : ∀ x c, cl.lookup x = some c → env.cells.lookup x = some c) (f : Str × NameKind → List (Str × Addr) → Sem (ForInStep (List (Str × Addr))))
    (hf1 : ∀ x a acc, env.cells.lookup x = some a → f (x, .free) acc = pure (ForInStep.yield ((x, a) :: acc))) (hf2 : ∀ x k acc, (k == NameKind.free) = false → f (x, k) acc = pure (ForInStep.yield acc)) : ∀ (names : List (Str × NameKind)) (acc out : List (Str × Addr)), freeOf cl names acc = some out →
    forIn names acc f = pure out
  | [], acc, out, e => by cases e; rfl
  | (x, k) :: r, acc, out, e => by
    rw [freeOf] at e
    rw [List.forIn_cons]
    by_cases hk : (k == .free) = true
    · rw [if_pos hk] at e
      have : k = .free := by simpa using hk
      subst this
      cases hc : cl.lookup x with
      | none => rw [hc] at e; cases e
      | some c =>
        rw [hc] at e
        rw [hf1 x c acc (h x c hc), pure_bind]
        exact closure_of h f hf1 hf2 r _ _ e
    · rw [if_neg hk] at e
      rw [hf2 x k acc (by simpa using hk), pure_bind]
      exact closure_of h f hf1 hf2 r _ _ e
theorem closureFor_of {env : Env} {cl out : List (Str × Addr)} {scope : Scope} (h : ∀ x c, cl.lookup x = some c → env.cells.lookup x = some c) (e : freeOf cl scope.names [] = some out) : closureFor scope env = pure out := by
  simp only [closureFor]
  rw [closure_of h _ (fun x a acc hx => ?_) (fun x k acc hk => ?_) scope.names [] out e]
  · rfl
  · have e2 : cellOf env x = pure a := by unfold cellOf; rw [hx]
    simp only [e2]
    rfl
  · simp only [hk, Bool.false_eq_true, if_false]
theorem freeOf_sub {cl : List (Str × Addr)} : ∀ (names : List (Str × NameKind)) (acc out : List (Str × Addr)), freeOf cl names acc = some out → (∀ x c, acc.lookup x = some c → cl.lookup x = some c) → ∀ x c, out.lookup x = some c → cl.lookup x = some c
  | [], acc, out, e, h => by cases e; exact h
  | (y, k) :: r, acc, out, e, h => by
    rw [freeOf] at e
    by_cases hk : (k == .free) = true
    · rw [if_pos hk] at e
      cases hc : cl.lookup y with
      | none => rw [hc] at e; cases e
      | some c0 =>
        rw [hc] at e
        refine freeOf_sub r _ _ e fun x c hx => ?_
        rw [List.lookup_cons] at hx
        by_cases q : x = y
        · subst q; simp at hx; rw [hc, hx]
        · have : (x == y) = false := by simpa using q
          rw [this] at hx
          exact h x c hx
    · rw [if_neg hk] at e; exact freeOf_sub r _ _ e h
theorem lookup_map {f : Str × NameKind → Str × NameKind} {g : Str → NameKind → NameKind} (hf : ∀ n k, f (n, k) = (n, g n k)) : ∀ (names : List (Str × NameKind)) (x : Str), (names.map f).lookup x = (names.lookup x).map (g x)
  | [], _ => rfl
  | (n, k) :: r, x => by
    rw [List.map_cons, hf, List.lookup_cons, List.lookup_cons, lookup_map hf r x]
    by_cases e : x = n
    · subst e; simp
    · have e1 : (x == n) = false := by simpa using e
      simp only [e1]
theorem relabel_kind (scope : Scope) (env : Env) (x : Str) : (relabel scope env).names.lookup x = (scope.names.lookup x).map fun k => if (k == NameKind.free && env.scope.kind == .function && env.kindOf x == some .cell) then NameKind.cell else k := by
  unfold relabel
  refine lookup_map (g := fun x k => if (k == NameKind.free && env.scope.kind == .function && env.kindOf x == some .cell) then NameKind.cell else k) (fun n k => ?_) _ _
  show (if _ then _ else _) = _
  split <;> simp_all

section
variable {Γ : Fm} {gl gl' : List (Str × Value)} {cl cl' : List (Str × Addr)} {ls lsc : Locs} {led led' : Led} {α β : Type}
/-- the frame of a comprehension's block -/
def cFm (Γ : Fm) (scope : Scope) (cl' : List (Str × Addr)) (C : Addr) (m : Str → Option Value) : Fm := { Γ with env := compEnvC scope cl' C Γ.env, comp := some m }
theorem NsO.of {h : Heap} {a : Addr} {m : Str → Option Value} (hn : h.Ns a m) : ∃ o, h.get? a = some o ∧ NsO a o m := by
  obtain ⟨o, es, ep, ho, r⟩ := hn
  exact ⟨o, ho, fun h' e => ⟨o, es, ep, e, r⟩⟩
theorem cOk {scope : Scope} {C : Addr} {m : Str → Option Value} (ok : Γ.Ok gl cl) (hkind : scope.kind = .function) (hfr : freeOf cl scope.names [] = some cl') (hgl : ∀ p, GlOk (hK p) scope.names gl') (hfree : ∀ x c, cl'.lookup x = some c → scope.names.lookup x = some .free) :
    (cFm Γ scope cl' C m).Ok gl' cl' where
  below := ok.below
  kin := ok.kin
  top := ok.top
  frames := ok.frames
  ffr := ok.ffr
  fkind := ok.fkind
  hnd := ok.hnd
  depth := ok.depth
  units := ok.units
  kind := hkind
  glob := ok.glob
  bult := ok.bult
  glok := fun x v hx => by
    obtain ⟨a, b, c⟩ := (hgl Γ.w.params).all x v hx
    refine ⟨?_, b, c⟩
    show (relabel scope Γ.env).names.lookup x = _
    rw [relabel_kind, a]
    rfl
  clok := fun x c hx => by
    have h1 := freeOf_sub _ _ _ hfr (fun x c (h : ([] : List (Str × Addr)).lookup x = some c) => by cases h) x c hx
    obtain ⟨a1, a2, a3, _⟩ := ok.clok x c h1
    refine ⟨a1, a2, hx, ?_⟩
    show (relabel scope Γ.env).names.lookup x = _ ∨ (relabel scope Γ.env).names.lookup x = _
    rw [relabel_kind, hfree x c hx]
    simp only [Option.map_some]
    split
    · exact .inl rfl
    · exact .inr rfl
  plain := fun h => by cases h
theorem toC {scope : Scope} {C : Addr} {oC : Obj} {mC : Str → Option Value} {h : Heap} {tl : List Ent} (hc : Γ.comp = none) (st : St Γ h ls ([(C, oC)] :: led) tl) (hn : NsO C oC mC) (hi : NsIs mC lsc)
    (hk : ∀ x ov, lsc.lookup x = some ov → scope.names.lookup x = some .local ∧ (x == ("__debug__" : Str)) = false) :
    ∃ m, St (cFm Γ scope cl' C m) h lsc led tl ∧ ∀ h' lsc' led' tl', St (cFm Γ scope cl' C m) h' lsc' led' tl' → ∃ oC' mC', NsO C oC' mC' ∧ NsIs mC' lsc' ∧ St Γ h' ls ([(C, oC')] :: led') tl' := by
  obtain ⟨m, ex, F, N, nd, lc⟩ := st
  have lc' := lc
  obtain ⟨lk, lc⟩ := lc
  rw [hc] at lc
  obtain ⟨rfl, hi0⟩ := lc
  have P1 : ∀ (o : Obj) (l : Led) (tl : List Ent), (([(C, o)] :: l).flatten ++ ([] ++ tl)).Perm (l.flatten ++ ([(C, o)] ++ tl)) := by
    intro o l tl
    show ((C, o) :: (l.flatten ++ tl)).Perm (l.flatten ++ (C, o) :: tl)
    exact List.perm_middle.symm
  refine ⟨m, ⟨m, [(C, oC)], F, fun p hp => N p ((P1 _ _ _).mem_iff.mpr hp), ((P1 oC led _).map _).nodup_iff.mp nd, ?_⟩, ?_⟩
  · refine ⟨fun x ov hx => ?_, rfl, oC, mC, rfl, hn, hi⟩
    obtain ⟨a, b⟩ := hk x ov hx
    refine ⟨?_, b⟩
    show (relabel scope Γ.env).names.lookup x = _
    rw [relabel_kind, a]
    rfl
  · rintro h' lsc' led' tl' ⟨m', ex', F', N', nd', _, hm', oC', mC', rfl, hn', hi'⟩
    subst hm'
    exact ⟨oC', mC', hn', hi', _, [], F', fun p hp => N' p ((P1 _ _ _).mem_iff.mp hp), ((P1 oC' led' _).map _).nodup_iff.mpr nd', lc'⟩
theorem w_storeC {x : Str} {v : Value} {ls' : Locs} {mf : Str → Option Value} {Q : Unit → Locs → Led → Prop} (hc : Γ.comp = some mf) (p : Put x v ls ls') (h : Q () ls' led) : WP Γ gl cl ls led (storeName Γ.env x v) Q :=
  fun ok h0 tk0 tl0 st => by
    obtain ⟨ov, e⟩ := p.known
    have hk := (st.kind e).1
    obtain ⟨m, ex, F, N, nd, lk, lc⟩ := st
    rw [hc] at lc
    obtain ⟨rfl, oC, mC, rfl, hn, hi⟩ := lc
    have z := N (Γ.env.locals, oC) (List.mem_append_right _ (.head _))
    refine wpAny_storeName_local hk (hn _ z.1) (fun h' hn' hs => ?_) (by rw [ok.kind]; rfl)
    obtain ⟨oC', ho', hnO'⟩ := NsO.of hn'
    have nd2 : ((led.flatten ++ (Γ.env.locals, oC) :: tl0).map (·.1)).Nodup := nd
    obtain ⟨n1, n2⟩ := nodup_ne nd2
    have N2 : News Γ.h₀ Γ.L h' (led.flatten ++ (Γ.env.locals, oC') :: tl0) := news_set (o := oC) N n1 n2 hs ho'
    refine ⟨h', _, ls', led, rfl, ⟨m, [(Γ.env.locals, oC')], F.change hs z.2.1 z.2.2, N2, ?_, fun y ov' hy => ?_, ?_⟩, h⟩
    · simpa using nd
    · rw [p.lookup] at hy
      by_cases q : y = x
      · subst q; exact lk _ _ e
      · rw [if_neg q] at hy; exact lk _ _ hy
    · rw [hc]
      refine ⟨rfl, oC', _, rfl, hnO', fun y ov' hy => ?_⟩
      rw [p.lookup] at hy
      by_cases q : y = x
      · rw [if_pos q] at hy; cases hy; show (if y = x then some v else mC y) = _; rw [if_pos q]
      · rw [if_neg q] at hy; show (if y = x then some v else mC y) = _; rw [if_neg q]; exact hi _ _ hy
end

section
variable {Γ : Fm} {gl gl' : List (Str × Value)} {cl cl' : List (Str × Addr)} {ls lsc : Locs} {led led' : Led} {α β : Type}

def CompStep (Γ : Fm) (gl' : List (Str × Value)) (cl' : List (Str × Addr)) (x : Str) (elt : PySem.Expr) (n : Nat) (P : Nat → Value → Prop) (I : Nat → List Value → Led → Prop) : Prop :=
  ∀ (Γc : Fm) i v ys led (K : Value → Locs → Led → Prop), Γc.room = Γ.room → (∃ m, Γc.comp = some m) → i < n → P i v → I i ys led → (∀ y ls2 led2, Drop (I (i + 1) (ys ++ [y])) led2 → K y ls2 led2) → WP Γc gl' cl' [(x, some v)] led (eval elt Γc.env) K
inductive CI (Γ : Fm) (ls : Locs) (tl : List Ent) (n : Nat) (its : Nat → List Ent → Prop) (I : Nat → List Value → Led → Prop) (sh : Locs → Prop) (C D : Addr) : Nat → Shared → Prop
  | mk (i : Nat) (h : Heap) (tk : Nat) (led : Led) (c : List Ent) (oC : Obj) (mC : Str → Option Value) (lsc : Locs) (ys : List Value) (cnt : Nat) (st : St Γ h ls (c :: led) ((C, oC) :: (D, listOf (List.toArray ys) cnt) :: tl)) (hn : NsO C oC mC) (hi : NsIs mC lsc) (hsh : sh lsc)
      (hc : its i c) (hI : I i ys led) (hle : i ≤ n) : CI Γ ls tl n its I sh C D (n + 1 - i) ⟨h, Γ.gens, Γ.drawn, tk, Γ.os⟩
inductive Sh1 (x : Str) : Locs → Prop
  | mk (ov : Option Value) : Sh1 x [(x, ov)]
theorem comp_loop {elt iter : PySem.Expr} {x : Str} {px pos : Pos} {scope : Scope} {it : Value} {n : Nat} {P : Nat → Value → Prop} {its : Nat → List Ent → Prop} {kp : Led → Prop} {I : Nat → List Value → Led → Prop} {R : Result → Shared → Prop} {C D : Addr}
    (hc : Γ.comp = none) (ok : Γ.Ok gl cl) (W : Wk Γ gl cl it n P its kp) (hkind : scope.kind = .function) (hx : scope.names.lookup x = some .local) (hxd : (x == ("__debug__" : Str)) = false)
    (hfr : freeOf cl scope.names [] = some cl') (hgl : ∀ p, GlOk (hK p) scope.names gl') (hfree : ∀ x c, cl'.lookup x = some c → scope.names.lookup x = some .free)
    (hI : ∀ i ys led, I i ys led → kp led ∧ ys.length < 100000) (step : CompStep Γ gl' cl' x elt n P I)
    {h : Heap} {tk : Nat} {tl : List Ent} {oC : Obj} {mC : Str → Option Value} {ov : Option Value} {c : List Ent} {cnt : Nat} (st : St Γ h ls (c :: led) ((C, oC) :: (D, listOf #[] cnt) :: tl)) (hn : NsO C oC mC) (hi : NsIs mC [(x, ov)]) (h0 : its 0 c) (hI0 : I 0 [] led)
    (hR : ∀ h' tk' oC mC ys cnt led', St Γ h' ls ([(C, oC)] :: [(D, listOf (List.toArray ys) cnt)] :: led') tl → NsO C oC mC → I n ys led' → R (.ok .next) ⟨h', Γ.gens, Γ.drawn, tk', Γ.os⟩) :
    codeAny (model pw Γ.w) Γ.A (.compLoop (.ListComp elt [⟨.Name x px, iter, [], 0⟩] scope pos) 0 it (.ref D) (compEnvC scope cl' C Γ.env)) R ⟨h, Γ.gens, Γ.drawn, tk, Γ.os⟩ := by
  refine codeAny_compLoop_list (CI Γ ls tl n its I (Sh1 x) C D) ?_ (n + 1) (.mk 0 h tk led c oC mC _ [] cnt st hn hi ⟨ov⟩ h0 hI0 (Nat.zero_le _))
  rintro k s' ⟨i, h1, tk1, led1, c1, oC1, mC1, lsc, ys, cnt1, st1, hn1, hi1, ⟨ov1⟩, hc1, hI1, hle⟩
  by_cases hlt : i < n
  · refine W.itemGo hlt hc1 (hI _ _ _ hI1).1 ok st1 fun v h2 tk2 c2 hP hc2 st2 => ?_
    obtain ⟨m, stc, back⟩ := toC (scope := scope) (cl' := cl') hc st2.pull hn1 hi1 (fun y oy hy => lk_one y oy hy fun e _ => e ▸ ⟨hx, hxd⟩)
    have okc : (cFm Γ scope cl' C m).Ok gl' cl' := cOk ok hkind hfr hgl hfree
    refine WP.goE (Γ := cFm Γ scope cl' C m) (w_assignName (w_storeC (mf := m) rfl .head ⟨rfl, rfl⟩)) okc stc.swapIn fun _ h4 tk4 st4 => ?_
    refine WP.go (step (cFm Γ scope cl' C m) i v ys led1 (fun y _ led2 => Drop (I (i + 1) (ys ++ [y])) led2) rfl ⟨m, rfl⟩ hlt hP hI1 (fun _ _ _ h => h)) okc st4 fun y h5 tk5 ls5 led5 st5 ⟨l, r, pk, hI5⟩ => ?_
    obtain ⟨oC5, mC5, hn5, hi5, st6⟩ := back h5 ls5 _ _ (st5.dropF pk).swapOut
    exact WP.goE (w_append .head (Nat.le_of_lt (hI _ _ _ hI1).2) ⟨rfl, rfl⟩) ok st6.pull fun _ h7 tk7 st7 =>
      ⟨n + 1 - (i + 1), Nat.sub_lt_sub_left (Nat.lt_succ_of_lt hlt) (Nat.lt_succ_self i), .mk (i + 1) h7 tk7 l c2 oC5 mC5 [(x, mC5 x)] _ (cnt1 + 1) st7.put.put hn5 (fun z oz hz => lk_one z oz hz fun e e2 => e ▸ e2) ⟨_⟩ hc2 hI5 hlt⟩
  · obtain rfl : i = n := Nat.le_antisymm hle (Nat.le_of_not_lt hlt)
    exact W.doneGo hc1 (hI _ _ _ hI1).1 ok st1 fun h3 tk3 st3 => hR h3 tk3 oC1 mC1 ys cnt1 led1 st3.pull2 hn1 hI1

theorem comp_core {elt iter : PySem.Expr} {x : Str} {px pos : Pos} {scope : Scope} {it : Value} {n : Nat} {P : Nat → Value → Prop} {its : Nat → List Ent → Prop} {kp : Led → Prop} {I : Nat → List Value → Led → Prop} {RR : Value → Addr → Result → Shared → Prop}
    (hc : Γ.comp = none) (ok : Γ.Ok gl cl) (W : Wk Γ gl cl it n P its kp) (hcell : ∀ y ∈ scope.names, y.2 ≠ .cell) (hkind : scope.kind = .function) (hx : scope.names.lookup x = some .local) (hxd : (x == ("__debug__" : Str)) = false)
    (hfr : freeOf cl scope.names [] = some cl') (hgl : ∀ p, GlOk (hK p) scope.names gl') (hfree : ∀ x c, cl'.lookup x = some c → scope.names.lookup x = some .free)
    (hI : ∀ i ys led, I i ys led → kp led ∧ ys.length < 100000) (step : CompStep Γ gl' cl' x elt n P I)
    {h : Heap} {tk : Nat} {tl : List Ent} {c : List Ent} (st : St Γ h ls (c :: led) tl) (h0 : its 0 c) (hI0 : I 0 [] led)
    (hR : ∀ D C h' tk' oC mC ys cnt led', St Γ h' ls ([(C, oC)] :: [(D, listOf (List.toArray ys) cnt)] :: led') tl → NsO C oC mC → I n ys led' → RR (.ref D) C (.ok .next) ⟨h', Γ.gens, Γ.drawn, tk', Γ.os⟩) :
    wpAny (model pw Γ.w) Γ.A (newList []) (fun acc s₃ => wpAny (model pw Γ.w) Γ.A (newFunctionEnv scope Γ.env.globals cl' [] Γ.env.qual none .none (some Γ.env)) (fun cenv s₄ =>
      codeAny (model pw Γ.w) Γ.A (.compStart (.ListComp elt [⟨.Name x px, iter, [], 0⟩] scope pos) 0 it acc { cenv with scope := relabel scope Γ.env }) (RR acc cenv.locals) s₄) noE s₃) noE ⟨h, Γ.gens, Γ.drawn, tk, Γ.os⟩ := by
  refine wpAny_newObj_type (wpAny_newFunctionEnv hcell (by intro y hy; cases hy) (fun h₁ hns₁ hsb₁ => ?_) hkind)
  obtain ⟨oC, hoC, hnO⟩ := NsO.of hns₁
  have st4 := (((st.push (listOf #[] 0)).push { cls := .type "dict", data := .dict #[] }).change .head hsb₁ hoC).put2
  have loop : ∀ h₁ tk', St Γ h₁ ls (c :: led) (((h.push (listOf #[] 0)).objs.size, oC) :: (h.objs.size, listOf #[] 0) :: tl) → codeAny (model pw Γ.w) Γ.A (.compLoop (.ListComp elt [⟨.Name x px, iter, [], 0⟩] scope pos) 0 it (.ref h.objs.size) (compEnvC scope cl' (h.push (listOf #[] 0)).objs.size Γ.env)) (RR (.ref h.objs.size) (h.push (listOf #[] 0)).objs.size) ⟨h₁, Γ.gens, Γ.drawn, tk', Γ.os⟩ := fun h₁ tk' st4 =>
    comp_loop hc ok W hkind hx hxd hfr hgl hfree hI step st4 hnO (ov := none) (fun z oz hz => lk_one z oz hz fun _ e => e ▸ rfl) h0 hI0 (hR _ _)
  exact codeAny_compStart_list (loop _ _ st4) (W.selfGo h0 (hI _ _ _ hI0).1 ok st4 fun h3 tk3 s3 => loop h3 tk3 s3)

structure CompOk (scope : Scope) (x : Str) (cl : List (Str × Addr)) (gl' : List (Str × Value)) (cl' : List (Str × Addr)) : Prop where
  cell : ∀ y ∈ scope.names, y.2 ≠ .cell
  kind : scope.kind = .function
  names : ∀ y ∈ scope.names, y.2 = .local → scope.names.lookup y.1 = some .local
  nx : scope.names.lookup x = some .local
  xd : (x == ("__debug__" : Str)) = false
  fr : freeOf cl scope.names [] = some cl'
  gl : ∀ p, GlOk (hK p) scope.names gl'
  free : ∀ x c, cl'.lookup x = some c → scope.names.lookup x = some .free

inductive CompIter (Γ : Fm) (gl gl' : List (Str × Value)) (cl cl' : List (Str × Addr)) (x : Str) (elt : PySem.Expr) (K : Value → Locs → Led → Prop) (xv : Value) (ls : Locs) (led : Led) : Prop
  | mk (n : Nat) (P : Nat → Value → Prop) (kp : Led → Prop) (I : Nat → List Value → Led → Prop) (it : IterOf Γ gl cl ls led xv n P kp) (h0 : Drop (I 0 []) led) (hk : ∀ i ys led, I i ys led → kp led ∧ ys.length < 100000) (step : CompStep Γ gl' cl' x elt n P I)
      (done : ∀ D cnt ys led', I n ys led' → K (.ref D) ls ([(D, listOf (List.toArray ys) cnt)] :: led')) : CompIter Γ gl gl' cl cl' x elt K xv ls led

theorem w_ListComp {elt iter : PySem.Expr} {x : Str} {px pos : Pos} {scope : Scope} {Q : Value → Locs → Led → Prop} (hc : Γ.comp = none) (S : CompOk scope x cl gl' cl')
    (H : WP Γ gl cl ls led (eval iter Γ.env) (CompIter Γ gl gl' cl cl' x elt Q))
    (hs : ∀ x, foldedSetIterable iter Γ.env x = pure x := by intro _; rfl) : WP Γ gl cl ls led (eval (.ListComp elt [⟨.Name x px, iter, [], 0⟩] scope pos) Γ.env) Q := fun ok h tk tl st => by
  rw [eval_ListComp]
  refine wpAny_comprehension_free (use := none) rfl hs (closureFor_of (fun x c hx => (ok.clok x c hx).2.2.1) S.fr) S.kind S.names (H.run ok st fun xv h1 tk1 ls1 led1 st1 ⟨n, P, kp, I, hIt, hI0, hI, step, done⟩ => WP.run hIt ok st1 fun it h2 tk2 ls2 led2 st2 hq => ?_)
  obtain ⟨rfl, its, c, rfl, hc0, W⟩ := hq
  obtain ⟨led1', r0, pk0, hI0⟩ := hI0
  replace st2 := (st2.swapIn.dropF pk0).swapOut
  refine comp_core (RR := fun acc C => compPost (model pw Γ.w) Γ.A noE none _ acc C) hc ok W S.cell S.kind S.nx S.xd S.fr S.gl S.free hI step st2 hc0 hI0 ?_
  intro D C h' tk' oC mC ys cnt led' st3 hn3 hI3
  exact ⟨mC, hn3 _ (st3.get (.head (.head _))), fun h'' hs'' => ⟨h'', tk', ls2, _, rfl, st3.lose fun b o hb e => (hs''.2 b hb).trans e, done _ _ _ _ hI3⟩⟩

/-- x = [..]: the value is stored before the block's own names go -/
theorem w_AssignComp {elt iter : PySem.Expr} {x y : Str} {px py pos spos : Pos} {scope : Scope} {oy : Option Value} {Q : Flow → Locs → Led → Prop} (hc : Γ.comp = none) (S : CompOk scope x cl gl' cl') (hy : ls.lookup y = some oy)
    (H : WP Γ gl cl ls led (eval iter Γ.env) (CompIter Γ gl gl' cl cl' x elt (fun v ls1 led1 => WP Γ gl cl ls1 led1 (storeName Γ.env y v) (fun _ ls2 led2 => Q .next ls2 led2))))
    (hsw : ∀ env : Env, env.blockKind = .function → env.kindOf y = some .local → swapsWith (.ListComp elt [⟨.Name x px, iter, [], 0⟩] scope pos) (some (.Name y py)) spos.line env = pure true)
    (hs : ∀ x, foldedSetIterable iter Γ.env x = pure x := by intro _; rfl) : WP Γ gl cl ls led (exec (.Assign [.Name y py] (.ListComp elt [⟨.Name x px, iter, [], 0⟩] scope pos) spos) Γ.env) Q := fun ok h tk tl st => by
  have bk : Γ.env.blockKind = .function := by unfold Env.blockKind; rw [ok.kind]; rfl
  rw [exec_Assign_Name_used _ _ _ _ (hsw _ bk (st.kind hy).1)]
  refine wpAny_bind (wpAny_standAt (wpAny_bind ?_))
  rw [arm_evalThenUse_ListComp]
  refine wpAny_bind ?_
  refine wpAny_comprehension_free (use := some (assign (.Name y py) Γ.env)) rfl hs (closureFor_of (fun x c hx => (ok.clok x c hx).2.2.1) S.fr) S.kind S.names (H.run ok st fun xv h1 tk1 ls1 led1 st1 ⟨n, P, kp, I, hIt, hI0, hI, step, done⟩ => WP.run hIt ok st1 fun it h2 tk2 ls2 led2 st2 hq => ?_)
  obtain ⟨rfl, its, c, rfl, hc0, W⟩ := hq
  obtain ⟨led1', r0, pk0, hI0⟩ := hI0
  replace st2 := (st2.swapIn.dropF pk0).swapOut
  refine comp_core (RR := fun acc C => compPost (model pw Γ.w) Γ.A noE (some (assign (.Name y py) Γ.env)) _ acc C) hc ok W S.cell S.kind S.nx S.xd S.fr S.gl S.free hI step st2 hc0 hI0 ?_
  intro D C h' tk' oC mC ys cnt led' st3 hn3 hI3
  refine wpAny_assign_Name ((done D cnt ys led' hI3).run ok st3.swapIn fun _ h4 tk4 ls4 led4 st4 q => ?_)
  have st5 := st4.swapOut
  exact ⟨mC, hn3 _ (st5.get (.head (.head _))), fun h'' hs'' => wpAny_pure (wpAny_pure ⟨h'', tk4, ls4, led4, rfl, st5.lose fun b o hb e => (hs''.2 b hb).trans e, q⟩)⟩
end

section
variable {w : World} {A : Around} {E : Value → Shared → Prop} {s : Shared}
theorem St.more {Γ : Fm} {ls : Locs} {led : Led} {h h' : Heap} {tl : List Ent} (st : St Γ h ls led tl) (k : ∀ b o, h.get? b = some o → h'.get? b = some o) (fs : List Ent) (hf : ∀ p ∈ fs, h'.get? p.1 = some p.2 ∧ ∀ b x, h.get? b = some x → b ≠ p.1) (hn : (fs.map (·.1)).Nodup) : St Γ h' ls (fs :: led) tl := by
  obtain ⟨m, ex, F, N, nd, lc⟩ := st
  obtain ⟨oL, _, _, hL, _⟩ := F.ns
  refine ⟨m, ex, F.keeps k, fun p hp => ?_, ?_, lc⟩
  · rw [List.flatten_cons, List.append_assoc] at hp
    rcases List.mem_append.mp hp with hp | hp
    · obtain ⟨h1, h2⟩ := hf p hp
      refine ⟨h1, (h2 _ _ hL).symm, ?_⟩
      cases hq : Γ.h₀.get? p.1 with
      | none => rfl
      | some o' => exact absurd rfl (h2 _ _ (F.keep _ _ hq))
    · exact ⟨k _ _ (N p hp).1, (N p hp).2⟩
  · rw [List.flatten_cons, List.append_assoc, List.map_append, List.nodup_append]
    refine ⟨hn, nd, fun x hx y hy e => ?_⟩
    obtain ⟨p, hp, rfl⟩ := List.mem_map.mp hx
    obtain ⟨q, hq, rfl⟩ := List.mem_map.mp hy
    exact absurd e.symm ((hf p hp).2 _ _ (N q hq).1)
theorem St.grown {Γ : Fm} {ls : Locs} {led : Led} {h h' : Heap} {tl : List Ent} (st : St Γ h ls led tl) (k : ∀ b o, h.get? b = some o → h'.get? b = some o) {a : Addr} {o : Obj} (ha : ∀ b x, h.get? b = some x → b ≠ a) (hoa : h'.get? a = some o) : St Γ h' ls ([(a, o)] :: led) tl :=
  st.more k [(a, o)] (fun p hp => by rcases List.mem_singleton.mp hp with rfl; exact ⟨hoa, ha⟩) (by simp)

theorem collect_dict {d : Addr} {kvs : List (Int × Value)} {ep : Nat} {Q : List Value → Shared → Prop} (hh : A.handled = none) (lo : (d == sysModules) = false) (hm : s.heap.DictAt (PySem.intKind pw w) d kvs ep) (hn : kvs.length ≤ 1000)
    (h : ∀ h' tk vs, (∀ b o, s.heap.get? b = some o → h'.get? b = some o) → IntsAre vs (kvs.map (·.1)) → Q vs { s with heap := h', toks := tk }) :
    wpAny (model pw w) A (collect (.ref d)) Q E s := by
  unfold collect
  refine wpAny_bind (wpAny_runValue (codeAny_builtin entry_proto_collect' ?_))
  show wpAny _ _ (do again (.builtin "list.__iadd__" ⟨[← newList [], .ref d], []⟩)) _ _ s
  refine wpAny_bind (wpAny_newList (wpAny_pure ⟨Code.quiet_builtin _ (by decide +kernel), codeAny_builtin entry_list_iadd' ?_⟩))
  rw [Around.under_plainId PySem.F.plain_list_iadd _]
  show wpAny _ _ (Builtin.List.listExtendWith (.ref s.heap.objs.size) (.ref d) (.ref s.heap.objs.size)) _ _ { s with heap := s.heap.push (seqObj "list" #[] 0) }
  have hne : s.heap.objs.size ≠ d := Nat.ne_of_gt hm.lt_size
  have hS : (s.heap.push (seqObj "list" #[] 0)).get? s.heap.objs.size = some (seqObj "list" #[] 0) := Heap.get?_push_size _ rfl
  have key : ∀ (vs : List Value) (ks : List (Int × Value)), vs.length = ks.length → (∀ (j : Nat) (v : Value), vs[j]? = some v → ∃ k x, ks[j]? = some (k, x) ∧ (PySem.intKind pw w).is k v = true) → IntsAre vs (ks.map (·.1)) := by
    intro vs
    induction vs with
    | nil => intro ks e _; cases ks <;> first | exact .nil | cases e
    | cons v r ih =>
      intro ks e H
      cases ks with
      | nil => cases e
      | cons p q =>
        obtain ⟨k, x, e1, e2⟩ := H 0 v rfl
        cases e1
        obtain ⟨t, rfl⟩ := Value.isInt_shape e2
        exact .cons k t (ih q (by simpa using e) fun j v hv => by simpa using H (j + 1) v (by simpa using hv))
  have fin' : ∀ h' tk (acc' : Array Value) c', (∀ b o, s.heap.get? b = some o → h'.get? b = some o) → h'.get? s.heap.objs.size = some { cls := .type "list", dict := none, data := .seq acc' c', slots := #[] } → ItemsOf (fun i v => ∃ k x, kvs[i]? = some (k, x) ∧ (PySem.intKind pw w).is k v = true) acc' kvs.length →
      wpAny (model pw w) A (do match (← load s.heap.objs.size).data with | .seq xs _ => pure xs.toList | _ => unsupported "internal:collect") Q E { s with heap := h', toks := tk } := fun h' tk acc' c' hk hS' hacc =>
    wpAny_bind (wpAny_load hS' (wpAny_pure (h h' tk acc'.toList hk (key _ _ (by simpa using hacc.1) fun j v e => hacc.2 j v (by rw [← Array.getElem?_toList]; exact e)))))
  refine wpAny_mono (kdl_extend (A := A) (s := { s with heap := s.heap.push (seqObj "list" #[] 0) }) (R := fun r s' => ∃ h' tk acc' c', r = .ok (.ret (.ref s.heap.objs.size)) ∧ s' = { s with heap := h', toks := tk } ∧ (∀ b o, s.heap.get? b = some o → h'.get? b = some o) ∧ h'.get? s.heap.objs.size = some { cls := .type "list", dict := none, data := .seq acc' c', slots := #[] } ∧ ItemsOf (fun i v => ∃ k x, kvs[i]? = some (k, x) ∧ (PySem.intKind pw w).is k v = true) acc' kvs.length)
    (kdl_dict (kvs := kvs) (ep := ep) lo) hh (hm.push _) _ hne hne (.ref s.heap.objs.size) 0 hS (fun h' tk acc' c' hk hS' hacc => ⟨h', tk, acc', c', rfl, rfl, fun b o e => hk b o (Nat.ne_of_lt (Heap.lt_size e)) (Heap.get?_push_of_some _ e), hS', hacc⟩) (by exact sz_line (by omega))) (fun fin s' hq => ?_) (fun e s' hq => ?_)
  · cases fin with
    | done f =>
      obtain ⟨h', tk, acc', c', e, rfl, hk, hS', hacc⟩ := hq
      cases e
      exact fin' h' tk acc' c' hk hS' hacc
    | again c2 =>
      refine ⟨hq.1, codeAny_mono hq.2 ?_⟩
      rintro r s'' ⟨h', tk, acc', c', rfl, rfl, hk, hS', hacc⟩
      exact fin' h' tk acc' c' hk hS' hacc
  · obtain ⟨h', tk, acc', c', e, _⟩ := hq
    cases e
theorem sorted_dict {d : Addr} {kvs : List (Int × Value)} {ep : Nat} {Q : Value → Shared → Prop} (hh : A.handled = none) (lo : (d == sysModules) = false) (hm : s.heap.DictAt (PySem.intKind pw w) d kvs ep) (h64 : kvs.length < 64)
    (h : ∀ D h' tk vs ns e, (∀ b x, s.heap.get? b = some x → b ≠ D) → (∀ b o, s.heap.get? b = some o → h'.get? b = some o) → h'.get? D = some (listOf (List.toArray vs) e) → IntsAre vs ns → ns.Perm (kvs.map (·.1)) → ns.Pairwise (· ≤ ·) → Q (.ref D) { s with heap := h', toks := tk }) :
    wpAny (model pw w) A (call (.builtin "sorted") [.ref d]) Q E s := by
  refine Calls.call_function_entry kind_sorted plain_sorted entry_sorted (args_sorted1 _) ?_
  unfold Builtin.«sorted»
  refine wpAny_bind (m := checkCount "sorted" 1 1 _) (wpAny_pure ?_)
  refine wpAny_bind (collect_dict (A := A.in1) hh lo hm (by omega) fun h1 tk vs hk hI => ?_)
  have hz : vs.length < 64 := by rw [IntsAre.length hI, List.length_map]; exact h64
  refine wpAny_bind (wpAny_newList ?_)
  have hoL : (h1.push (seqObj "list" vs.toArray 0)).get? h1.objs.size = some (seqObj "list" vs.toArray 0) := Heap.get?_push_size _ rfl
  have ge : ∀ b x, s.heap.get? b = some x → b ≠ h1.objs.size := fun b x e => Nat.ne_of_lt (Heap.lt_size (hk _ _ e))
  refine wpAny_bind (wpAny_holding (wpAny_call_entry slot_list_sort ⟨_, hoL, rfl⟩ entry_list_sort (list_sort_tree hoL hI hz fun out ns' a1 a2 a3 => ⟨_, rfl, ?_⟩) (args_list_sort _)))
  obtain ⟨e, he⟩ := sortedHeap_at (out := out) hoL
  refine wpAny_pure ⟨_, rfl, h _ _ _ out.toList ns' e ge (fun b o e => ?_) (by simpa using he) a1 a2 a3⟩
  have lt := Heap.lt_size (hk _ _ e)
  rw [sortedHeap_old (Nat.ne_of_lt lt) (by rw [Heap.size_push]; exact Nat.lt_succ_of_lt lt)]
  exact Heap.get?_push_of_some _ (hk _ _ e)
end
section
variable {Γ : Fm} {gl : List (Str × Value)} {cl : List (Str × Addr)} {ls : Locs} {led led' : Led}
theorem IDict.at {h : Heap} {d : Addr} {es : Array DictEntry} {ep : Nat} {kvs : List (Int × Value)} (hd : IDict es kvs) (w : World) (ho : h.get? d = some (dictO es ep)) : h.DictAt (PySem.intKind pw w) d kvs ep :=
  ⟨_, es, ho, ⟨rfl, rfl, rfl⟩, rfl, fun x hx => hd.1.keys x (by simpa using hx), hd.1.pairs, hd.2⟩
theorem w_sortedD {d : Addr} {es : Array DictEntry} {ep : Nat} {kvs : List (Int × Value)} {Q : Value → Locs → Led → Prop} (a : At d (dictO es ep) led) (hd : IDict es kvs) (lo : (d == sysModules) = false) (h64 : kvs.length < 64)
    (h : ∀ D vs ns e, IntsAre vs ns → ns.Perm (kvs.map (·.1)) → ns.Pairwise (· ≤ ·) → Q (.ref D) ls ([(D, listOf (List.toArray vs) e)] :: led)) : WP Γ gl cl ls led (call (.builtin "sorted") [.ref d]) Q := fun ok _ _ _ st =>
  sorted_dict ok.hnd lo (hd.at Γ.w (st.get a)) h64 fun _ h' tk vs ns e ge hk hD hi hp hs => ⟨h', tk, ls, _, rfl, st.grown hk ge hD, h _ _ _ _ hi hp hs⟩

-- enumerate
abbrev enumO (it : Addr) (i : Int) (old : Value) : Obj := { cls := .type "enumerate", dict := none, data := .fields #[.none, .bool false, .ref it, rawInt i, .none, old], slots := #[] }
theorem w_enumL {l : Addr} {vs : List Value} {n : Nat} {Q : Value → Locs → Led → Prop} (a : At l (listOf vs.toArray n) led)
    (h : ∀ e it oi, (∀ h : Heap, h.get? it = some oi → h.IsListIter it l 0) → e ≠ it → l ≠ e → l ≠ it → Q (.ref e) ls ([(e, enumO it 0 .none), (it, oi)] :: led)) : WP Γ gl cl ls led (call (.type "enumerate") [.ref l]) Q := fun _ hp _ _ st => by
  have ll := st.lt a
  refine call_enumerate_list (w_isList st a) fun h' he hit hz hk => ?_
  obtain ⟨oi, hoi, hc, hd⟩ := hit
  refine ⟨h', _, ls, [(hp.objs.size + 1, enumO hp.objs.size 0 .none), (hp.objs.size, oi)] :: led, rfl, st.more hk _ (fun p hp' => ?_) ?_, h _ _ oi (fun h2 e2 => ⟨oi, e2, hc, hd⟩) (Nat.succ_ne_self _) (Nat.ne_of_lt (Nat.lt_succ_of_lt ll)) (Nat.ne_of_lt ll)⟩
  · rcases List.mem_cons.mp hp' with rfl | hp'
    · exact ⟨he, fun b x e => Nat.ne_of_lt (Nat.lt_succ_of_lt (Heap.lt_size e))⟩
    · rcases List.mem_singleton.mp hp' with rfl
      exact ⟨hoi, fun b x e => Nat.ne_of_lt (Heap.lt_size e)⟩
  · simp

theorem nodup_mid {c : List Ent} {rest : List Ent} {c' : List Ent} (nd : ((c ++ rest).map (·.1)).Nodup) (hc : (c'.map (·.1)).Nodup) (hd : ∀ p ∈ c', ∀ q ∈ rest, p.1 ≠ q.1) : ((c' ++ rest).map (·.1)).Nodup := by
  rw [List.map_append, List.nodup_append] at nd ⊢
  refine ⟨hc, nd.2.1, fun x hx y hy e => ?_⟩
  obtain ⟨p, hp, rfl⟩ := List.mem_map.mp hx
  obtain ⟨q, hq, rfl⟩ := List.mem_map.mp hy
  exact hd p hp q hq e
/-- one chunk's objects have turned, and fresh ones have come -/
theorem St.redo {h h' : Heap} {tl : List Ent} {c c' : List Ent} (st : St Γ h ls (c :: led) tl) (k : ∀ b o, (∀ p ∈ c, b ≠ p.1) → h.get? b = some o → h'.get? b = some o)
    (hf : ∀ p ∈ c', h'.get? p.1 = some p.2 ∧ ((∃ q ∈ c, q.1 = p.1) ∨ ∀ b x, h.get? b = some x → b ≠ p.1)) (hn : (c'.map (·.1)).Nodup) : St Γ h' ls (c' :: led) tl := by
  obtain ⟨m, ex, F, N, nd, lc⟩ := st
  rw [List.flatten_cons, List.append_assoc] at N nd
  have nd2 := nd
  rw [List.map_append, List.nodup_append] at nd2
  have apart : ∀ p ∈ c, ∀ q ∈ led.flatten ++ (ex ++ tl), q.1 ≠ p.1 := fun p hp q hq e => nd2.2.2 _ (List.mem_map_of_mem hp) _ (List.mem_map_of_mem hq) e.symm
  obtain ⟨oL, _, _, hL, _⟩ := id F.ns
  have Nc : ∀ p ∈ c, p.1 ≠ Γ.L ∧ Γ.h₀.get? p.1 = none := fun p hp => (N p (List.mem_append_left _ hp)).2
  have F' : Fr Γ.h₀ Γ.L h' m := ⟨F.ns.at' fun x e => k _ _ (fun p hp q => (Nc p hp).1 q.symm) e, fun b x e => k b x (fun p hp q => by have := (Nc p hp).2; rw [← q, e] at this; cases this) (F.keep b x e), F.above⟩
  refine ⟨m, ex, F', fun p hp => ?_, ?_, lc⟩
  · rw [List.flatten_cons, List.append_assoc] at hp
    rcases List.mem_append.mp hp with hp | hp
    · obtain ⟨h1, h2⟩ := hf p hp
      rcases h2 with ⟨q, hq, e⟩ | h2
      · exact ⟨h1, by rw [← e]; exact Nc q hq⟩
      · refine ⟨h1, (h2 _ _ hL).symm, ?_⟩
        cases hq : Γ.h₀.get? p.1 with
        | none => rfl
        | some o' => exact absurd rfl (h2 _ _ (F.keep _ _ hq))
    · have y := N p (List.mem_append_right _ hp)
      exact ⟨k _ _ (fun q hq => apart q hq p hp) y.1, y.2⟩
  · rw [List.flatten_cons, List.append_assoc]
    refine nodup_mid nd hn fun p hp q hq e => ?_
    rcases (hf p hp).2 with ⟨r, hr, e2⟩ | h2
    · exact apart r hr q hq (by rw [e2, e])
    · exact h2 _ _ (N q (List.mem_append_right _ hq)).1 e.symm

theorem regr {h : Heap} {tl : List Ent} (st : St Γ h ls led tl) (e : led.flatten = led'.flatten) : St Γ h ls led' tl := st.perm (by rw [e])

/-- the walk over an enumerate, whatever it counts -/
theorem iter_enum {elts : List PySem.Expr} {kk : Nat} {pos : Pos} {e it : Addr} {oi : Obj} {n : Nat} {P : Nat → Value → Prop} {It : Nat → Obj → Prop} {kp : Led → Prop}
    (hne : e ≠ it) (h0 : It 0 oi)
    (D : ∀ (A : Around), A.handled = none → ∃ (fp : List Addr) (S : Nat → Heap → Prop), Draws pw Γ.w A it fp n P S ∧ e ∉ fp ∧ (∀ i h, S i h → ∃ o, h.get? it = some o ∧ It i o) ∧
      ∀ i h led tl ls oi c, kp led → St Γ h ls (c :: led) tl → (it, oi) ∈ c → It i oi → S i h) :
    IterOf3 Γ gl cl ls ([(e, enumO it 0 .none), (it, oi)] :: led) (.Tuple elts kk pos) (.ref e) n (fun i v own => ∃ a x t, P i x ∧ v = .ref a ∧ own = [(a, tupO [.int i t, x])]) kp led := fun ok h tk tl st => by
  refine wpAny_pyIter_enum (i := 0) (old := .none) (st.get (.head (.head _))) ⟨h, tk, ls, _, rfl, st, rfl, (fun (i : Nat) (c : List Ent) => ∃ old oi, c = [(e, enumO it i old), (it, oi)] ∧ It i oi), _, rfl, ⟨.none, oi, rfl, h0⟩, ?_⟩
  refine ⟨?_, ?_⟩
  · rintro i c led2 ls2 hi ⟨old, oi2, rfl, hIt⟩ hk ok2 h2 tk2 tl2 st2
    obtain ⟨fp, S, DD, hef, hS1, hS⟩ := D Γ.A.in1 ok2.hnd
    have hst := hS i h2 led2 tl2 ls2 oi2 _ hk st2 (.tail _ (.head _)) hIt
    refine wpAny_pyNext_enum_itemD DD (st2.get (.head (.head _))) hst hi hne hef fun x h3 tk3 hP ho hs3 hT hz hkeep => ?_
    obtain ⟨o3, ho3, hIt3⟩ := hS1 _ _ hs3
    have st3 : St Γ h3 ls2 ([(e, ({ cls := .type "enumerate", dict := none, data := .fields #[rawInt h2.objs.size, .bool false, .ref it, rawInt ((i : Int) + 1), .none, x], slots := #[] } : Obj)), (it, o3), (h2.objs.size, tupO [.int i tk3, x])] :: led2) tl2 := by
      refine st2.redo (fun b o hb e' => hkeep b o (hb _ (.head _)) (hb _ (.tail _ (.head _))) e') (fun p hp => ?_) ?_
      · rcases List.mem_cons.mp hp with rfl | hp
        · exact ⟨ho, .inl ⟨_, .head _, rfl⟩⟩
        · rcases List.mem_cons.mp hp with rfl | hp
          · exact ⟨ho3, .inl ⟨_, .tail _ (.head _), rfl⟩⟩
          · rcases List.mem_singleton.mp hp with rfl
            exact ⟨hT, .inr fun b x e' => Nat.ne_of_lt (Heap.lt_size e')⟩
      · have l1 := st2.lt (a := e) (.head (.head _))
        have l2 := st2.lt (a := it) (.head (.tail _ (.head _)))
        simp only [List.map_cons, List.map_nil, List.nodup_cons, List.mem_cons, List.not_mem_nil, or_false, not_or, not_false_eq_true, List.nodup_nil, and_true]
        exact ⟨⟨hne, Nat.ne_of_lt l1⟩, Nat.ne_of_lt l2⟩
    refine ⟨h3, _, ls2, _, rfl, st3, .ref h2.objs.size, rfl, rfl, ?_⟩
    intro ok4 h4 tk4 tl4 st4
    refine wpAny_letOwnedTupleGo_enum (st4.get (.head (.head _))) fun h5 he5 hs5 => ?_
    have st5 : St Γ h5 ls2 ([(e, enumO it ((i : Int) + 1) x), (it, o3), (h2.objs.size, tupO [.int i tk3, x])] :: led2) tl4 := by
      refine st4.redo (fun b o hb e' => (hs5.2 b (hb _ (.head _))).trans e') (fun p hp => ?_) ?_
      · obtain ⟨m, ex, F, N, nd, lc⟩ := st4
        rcases List.mem_cons.mp hp with rfl | hp
        · exact ⟨he5, .inl ⟨_, .head _, rfl⟩⟩
        · have hpe : p.1 ≠ e := fun q => by
            rw [List.flatten_cons, List.append_assoc, List.map_append, List.nodup_append] at nd
            have := nd.1
            rw [List.map_cons, List.nodup_cons] at this
            exact this.1 (List.mem_map.mpr ⟨p, hp, q⟩)
          have hm : p ∈ [(e, ({ cls := .type "enumerate", dict := none, data := .fields #[rawInt h2.objs.size, .bool false, .ref it, rawInt ((i : Int) + 1), .none, x], slots := #[] } : Obj)), (it, o3), (h2.objs.size, tupO [.int i tk3, x])] := .tail _ hp
          exact ⟨(hs5.2 _ hpe).trans (N p (List.mem_append_left _ (by rw [List.flatten_cons]; exact List.mem_append_left _ hm))).1, .inl ⟨p, hm, rfl⟩⟩
      · obtain ⟨m, ex, F, N, nd, lc⟩ := st4
        rw [List.flatten_cons, List.append_assoc, List.map_append, List.nodup_append] at nd
        exact nd.1
    refine ⟨h5, tk4, ls2, [(e, enumO it ((i + 1 : Nat) : Int) x), (it, o3)] :: [(h2.objs.size, tupO [.int i tk3, x])] :: led2, rfl, regr st5 (by simp), rfl, _, _, rfl, ⟨x, o3, rfl, hIt3⟩, _, x, tk3, hP, rfl, rfl⟩
  · rintro c led2 ls2 ⟨old, oi2, rfl, hIt⟩ hk ok2 h2 tk2 tl2 st2
    obtain ⟨fp, S, DD, hef, hS1, hS⟩ := D Γ.A.in1 ok2.hnd
    have hst := hS n h2 led2 tl2 ls2 oi2 _ hk st2 (.tail _ (.head _)) hIt
    refine wpAny_pyNext_enum_endD DD (st2.get (.head (.head _))) hst fun h3 hx => ⟨h3, tk2, ls2, led2, rfl, ?_, rfl, rfl, rfl⟩
    have := st2.redo (c' := []) (fun b o hb e' => hx b o (hb _ (.tail _ (.head _))) e') (fun p hp => by cases hp) List.nodup_nil
    exact regr this (by simp)
end

open AutoSeq1 (wpAny_loadPart')
theorem meets_enum_newT (l : Addr) (items : Array Value) (n : Nat) :
    Meets (Builtin.«enumerate.__new__» ⟨[.type "enumerate", .ref l], []⟩) (fun _ R s => s.heap.get? l = some { cls := .type "tuple", dict := none, data := .seq items n, slots := #[] } ∧
      R (.ok (.ret (.ref (s.heap.push { cls := .type "tuple_iterator", data := .fields #[.ref l, .int 0 0] }).objs.size)))
        { s with heap := (s.heap.push { cls := .type "tuple_iterator", data := .fields #[.ref l, .int 0 0] }).push { cls := .type "enumerate", data := .fields #[.none, .bool false, .ref s.heap.objs.size, rawInt 0, .none, .none] } }) :=
  .of_wp fun prog w A R s h => by
    obtain ⟨hp, g, d, tk, os⟩ := s; obtain ⟨hl, h⟩ := h
    have hsub := sub_enumerate
    have hL : Heap.IsTuple (Shared.heap ⟨hp, g, d, tk, os⟩) l items := ⟨_, hl, rfl, n, rfl⟩
    wp_walk using wpAny_loadPart' hl
    refine wpAny_stack_any fun st => wpAny_pure ?_
    split
    · rename_i c _ _ _ _ _
      cases (c == Value.type "enumerate")
      · wp_walk using wpAny_loadPart' hl, wpAny_pyIter_tuple hL
        exact ⟨_, rfl, h⟩
      · wp_walk using wpAny_loadPart' hl, wpAny_pyIter_tuple hL
        exact ⟨_, rfl, h⟩
    · wp_walk using wpAny_loadPart' hl, wpAny_pyIter_tuple hL
      exact ⟨_, rfl, h⟩
section
variable {prog : Program} {w : World} {A : Around} {E : Value → Shared → Prop} {s : Shared}
theorem nextOf_tup_item {it t : Addr} {i : Nat} {items : Array Value} {x : Value} {Q : Value → Shared → Prop} (hit : s.heap.IsTupleIter it t i) (ht : s.heap.IsTuple t items) (hx : items[i]? = some x)
    (hQ : ∀ h', h'.IsTupleIter it t (i + 1) → Heap.SameBut it s.heap h' → Q x { s with heap := h' }) : wpAny (model prog w) A (Builtin.SmallTypes.nextOf (.ref it)) Q E s := by
  obtain ⟨o, ho, hc, hd⟩ := id hit
  obtain ⟨ol, hol, _, nl, hdl⟩ := ht
  unfold Builtin.SmallTypes.nextOf
  refine wpAny_bind (wpAny_callSpecial?_slot (name := Str.ofString "__next__") hit.typeIs PySem.F.slot_tuple_iterator_next
    (wpAny_call_entry PySem.F.slot_tuple_iterator_next hit.typeIs PySem.F.entry_tuple_iterator_next ?_ (PySem.F.args_tuple_iterator_next_1 _)))
  show wpAny _ _ (field (.ref it) 0 >>= _) _ _ s
  refine wpAny_bind (wpAny_field ho hd (x := .ref t) rfl ?_)
  show wpAny _ _ (if (Value.ref t == Value.none) = true then _ else _) _ _ s
  rw [if_neg (show ¬ ((Value.ref t == Value.none) = true) from Bool.false_ne_true)]
  show wpAny _ _ (field (.ref it) 1 >>= _) _ _ s
  refine wpAny_bind (wpAny_field ho hd (x := .int i 0) rfl ?_)
  show wpAny _ _ (seqItems? (.ref t) >>= _) _ _ s
  refine wpAny_bind (wpAny_seqItems hol hdl ?_)
  simp only [Int.toNat_natCast, hx]
  refine wpAny_bind (wpAny_setField ho hd (by simp) (wpAny_pure ⟨x, rfl, wpAny_pure (hQ _ ?_ (Heap.SameBut.update ..))⟩))
  exact ⟨_, Heap.get?_update_self _ ho (Obj.isFreed_of_fields (Obj.data_mapFields hd _)), (Obj.cls_mapFields ..).trans hc, by
    rw [Obj.data_mapFields hd]; simp [rawInt]⟩
theorem nextOf_tup_end {it t : Addr} {i : Nat} {items : Array Value} {Q : Value → Shared → Prop} (hh : A.handled = none) (hit : s.heap.IsTupleIter it t i) (ht : s.heap.IsTuple t items) (hx : items[i]? = none)
    (hE : ∀ h' e, Heap.ExtBut it s.heap h' → (∃ o, h'.get? e = some o ∧ o.cls = .type "StopIteration") → E (.ref e) { s with heap := h' }) : wpAny (model prog w) A (Builtin.SmallTypes.nextOf (.ref it)) Q E s := by
  obtain ⟨o, ho, hc, hd⟩ := id hit
  obtain ⟨ol, hol, _, nl, hdl⟩ := ht
  unfold Builtin.SmallTypes.nextOf
  refine wpAny_bind (wpAny_callSpecial?_slot (name := Str.ofString "__next__") hit.typeIs PySem.F.slot_tuple_iterator_next
    (wpAny_call_entry PySem.F.slot_tuple_iterator_next hit.typeIs PySem.F.entry_tuple_iterator_next ?_ (PySem.F.args_tuple_iterator_next_1 _)))
  show wpAny _ _ (field (.ref it) 0 >>= _) _ _ s
  refine wpAny_bind (wpAny_field ho hd (x := .ref t) rfl ?_)
  show wpAny _ _ (if (Value.ref t == Value.none) = true then _ else _) _ _ s
  rw [if_neg (show ¬ ((Value.ref t == Value.none) = true) from Bool.false_ne_true)]
  show wpAny _ _ (field (.ref it) 1 >>= _) _ _ s
  refine wpAny_bind (wpAny_field ho hd (x := .int i 0) rfl ?_)
  show wpAny _ _ (seqItems? (.ref t) >>= _) _ _ s
  refine wpAny_bind (wpAny_seqItems hol hdl ?_)
  simp only [Int.toNat_natCast, hx]
  refine wpAny_bind (wpAny_rule (wpAny_bind (wpAny_setField ho hd (by simp) ?_)))
  show wpAny _ _ (newExc (.type "StopIteration") [] >>= _) _ _ _
  refine wpAny_bind ?_
  simp only [newExc, newTuple]
  refine wpAny_bind (wpAny_newObj_type ?_ (by size_fits))
  refine wpAny_bind (m := firstArgMember _ _) (wpAny_of_eq (a := Value.none) (by first | rfl | (simp only [firstArgMember]; rfl)) ?_)
  refine wpAny_newObj_type ?_ (by size_fits)
  simp only [raiseNew]
  refine wpAny_bind (wpAny_handled ?_)
  first | rw [show A.in1.handled = none from hh] | rw [hh]
  refine wpAny_bind (wpAny_pure (wpAny_throw ?_))
  exact hE _ _ (((Heap.SameBut.update ..).extBut.push _).push _) ⟨_, Heap.get?_push_size _ rfl, rfl⟩
end
theorem draws_tup {prog : Program} {w : World} {A : Around} (hh : A.handled = none) (it t : Addr) (hne : t ≠ it) (items : Array Value) :
    Draws prog w A it [it, t] items.size (fun i v => items[i]? = some v) (fun i h => h.IsTupleIter it t i ∧ h.IsTuple t items) where
  live := fun _ _ st => let ⟨o, ho, _⟩ := st.1; ⟨o, ho⟩
  frame := fun _ _ _ st hk => ⟨let ⟨o, ho, r⟩ := st.1; ⟨o, hk it (by simp) o ho, r⟩, let ⟨o, ho, r⟩ := st.2; ⟨o, hk t (by simp) o ho, r⟩⟩
  item := fun i s Q E hi st hQ => by
    refine nextOf_tup_item st.1 st.2 (x := items[i]) (by simp [hi]) fun h' hit' hs' => ?_
    exact hQ _ h' s.toks (by simp [hi]) ⟨hit', st.2.extBut hs'.extBut hne⟩ hs'
  done := fun s Q E st hE => nextOf_tup_end hh st.1 st.2 (by simp) hE
section
variable {Γ : Fm} {gl : List (Str × Value)} {cl : List (Str × Addr)} {ls : Locs} {led led' : Led}
theorem St.ne {h : Heap} {tl : List Ent} {c : List Ent} (st : St Γ h ls (c :: led) tl) {a b : Addr} {o o' : Obj} (x : (a, o) ∈ c) (y : At b o' led) : a ≠ b := by
  obtain ⟨m, ex, F, N, nd, lc⟩ := st
  rw [List.flatten_cons, List.append_assoc, List.map_append, List.nodup_append] at nd
  exact nd.2.2 _ (List.mem_map_of_mem x) _ (List.mem_map_of_mem (List.mem_append_left _ y.mem))
theorem iter_enumL {elts : List PySem.Expr} {kk : Nat} {pos : Pos} {e it l : Addr} {oi : Obj} {vs : List Value} {n : Nat} (a : At l (listOf vs.toArray n) led) (h0 : ∀ h : Heap, h.get? it = some oi → h.IsListIter it l 0) (hne : e ≠ it) (hle : l ≠ e) (hli : l ≠ it) :
    IterOf3 Γ gl cl ls ([(e, enumO it 0 .none), (it, oi)] :: led) (.Tuple elts kk pos) (.ref e) vs.length (fun i v own => ∃ a x t, vs[i]? = some x ∧ v = .ref a ∧ own = [(a, tupO [.int i t, x])]) (fun led => At l (listOf vs.toArray n) led) led := by
  have hz : vs.toArray.size = vs.length := List.size_toArray ..
  have := iter_enum (Γ := Γ) (gl := gl) (cl := cl) (ls := ls) (led := led) (elts := elts) (kk := kk) (pos := pos) (n := vs.length) (P := fun i v => vs[i]? = some v) (It := fun i o => ∀ h : Heap, h.get? it = some o → h.IsListIter it l i) (kp := fun led => At l (listOf vs.toArray n) led) hne h0
    (fun A hh => ⟨[it, l], (fun i h => h.IsListIter it l i ∧ h.IsList l vs.toArray), by rw [← hz]; simpa using Draws.list hh it l hli vs.toArray, by simp [hne, hle.symm], fun i h st => by
      obtain ⟨o, ho, hc, hd⟩ := st.1
      exact ⟨o, ho, fun h' e => ⟨o, e, hc, hd⟩⟩, fun i h led tl ls oi c ka st hm hIt => ⟨hIt _ (st.get (.head hm)), w_isList st (.tail ka)⟩⟩)
  exact this
theorem iter_enumT {elts : List PySem.Expr} {kk : Nat} {pos : Pos} {e it l : Addr} {oi : Obj} {vs : List Value} (a : At l (tupO vs) led) (h0 : ∀ h : Heap, h.get? it = some oi → h.IsTupleIter it l 0) (hne : e ≠ it) (hle : l ≠ e) (hli : l ≠ it) :
    IterOf3 Γ gl cl ls ([(e, enumO it 0 .none), (it, oi)] :: led) (.Tuple elts kk pos) (.ref e) vs.length (fun i v own => ∃ a x t, vs[i]? = some x ∧ v = .ref a ∧ own = [(a, tupO [.int i t, x])]) (fun led => At l (tupO vs) led) led := by
  have hz : vs.toArray.size = vs.length := List.size_toArray ..
  have := iter_enum (Γ := Γ) (gl := gl) (cl := cl) (ls := ls) (led := led) (elts := elts) (kk := kk) (pos := pos) (n := vs.length) (P := fun i v => vs[i]? = some v) (It := fun i o => ∀ h : Heap, h.get? it = some o → h.IsTupleIter it l i) (kp := fun led => At l (tupO vs) led) hne h0
    (fun A hh => ⟨[it, l], (fun i h => h.IsTupleIter it l i ∧ h.IsTuple l vs.toArray), by rw [← hz]; simpa using draws_tup hh it l hli vs.toArray, by simp [hne, hle.symm], fun i h st => by
      obtain ⟨o, ho, hc, hd⟩ := st.1
      exact ⟨o, ho, fun h' e => ⟨o, e, hc, hd⟩⟩, fun i h led tl ls oi c ka st hm hIt => ⟨hIt _ (st.get (.head hm)), w_isTuple st (.tail ka)⟩⟩)
  exact this
theorem w_enumT {l : Addr} {vs : List Value} {Q : Value → Locs → Led → Prop} (a : At l (tupO vs) led)
    (h : ∀ e it oi, (∀ h : Heap, h.get? it = some oi → h.IsTupleIter it l 0) → e ≠ it → l ≠ e → l ≠ it → Q (.ref e) ls ([(e, enumO it 0 .none), (it, oi)] :: led)) : WP Γ gl cl ls led (call (.type "enumerate") [.ref l]) Q := fun _ hp tk tl st => by
  have ll := st.lt a
  refine callType_new PySem.F.called_enumerate (by decide) (PySem.F.typeCall_enumerate_1 _) (PySem.F.newCall_enumerate_1 _) (fun obj => PySem.F.args_object_init_2 obj _) PySem.F.entry_enumerate_new (meets_enum_newT l vs.toArray 0) ⟨st.get a, ?_⟩
  have hz : (hp.push { cls := .type "tuple_iterator", data := .fields #[.ref l, .int 0 0] }).objs.size = hp.objs.size + 1 := Heap.size_push ..
  show _ ∧ _
  rw [hz]
  have e0 := Heap.get?_push_size (hp.push { cls := .type "tuple_iterator", data := .fields #[.ref l, .int 0 0] }) (o := enumO hp.objs.size 0 .none) rfl
  rw [hz] at e0
  refine ⟨⟨_, e0, rfl⟩, _, tk, ls, [(hp.objs.size + 1, enumO hp.objs.size 0 .none), (hp.objs.size, ({ cls := .type "tuple_iterator", data := .fields #[.ref l, .int 0 0] } : Obj))] :: led, rfl, st.more (fun b o x => Heap.get?_push_of_some _ (Heap.get?_push_of_some _ x)) _ (fun p hp' => ?_) ?_, h _ _ _ (fun h2 e2 => ⟨_, e2, rfl, rfl⟩) (Nat.succ_ne_self _) (Nat.ne_of_lt (Nat.lt_succ_of_lt ll)) (Nat.ne_of_lt ll)⟩
  · rcases List.mem_cons.mp hp' with rfl | hp'
    · exact ⟨e0, fun b x e => Nat.ne_of_lt (Nat.lt_succ_of_lt (Heap.lt_size e))⟩
    · rcases List.mem_singleton.mp hp' with rfl
      exact ⟨Heap.get?_push_of_some _ (Heap.get?_push_size _ rfl), fun b x e => Nat.ne_of_lt (Heap.lt_size e)⟩
  · simp

-- items of a dict
abbrev viewO (d : Addr) : Obj := { cls := .type "dict_items", data := .fields #[.ref d] }
theorem w_itemsM {d : Addr} {es : Array DictEntry} {ep : Nat} {pl : Sem Bool} {Q : Value × List Value → Locs → Led → Prop} (a : At d (dictO es ep) led)
    (h : Q (.builtin "dict.items", [.ref d]) ls led) : WP Γ gl cl ls led (getMethod (.ref d) "items" pl) Q := fun _ _ _ _ st =>
  getMethod_builtin ⟨_, st.get a, rfl⟩ PySem.F.plainAttrs_dict PySem.F.slot_dict_items PySem.F.type_dict_items (fun b e => by cases e; exact ⟨_, st.get a, rfl⟩) ⟨_, _, _, _, rfl, st, h⟩
theorem w_items {d : Addr} {es : Array DictEntry} {ep : Nat} {kvs : List (Int × Value)} {Q : Value → Locs → Led → Prop} (a : At d (dictO es ep) led) (hd : IDict es kvs) (lo : (d == sysModules) = false) (h : ∀ v, Q (.ref v) ls ([(v, viewO d)] :: led)) :
    WP Γ gl cl ls led (call (.builtin "dict.items") [.ref d]) Q := fun _ _ _ _ st => by
  have hD := Heap.dictOf_iff.mpr ⟨_, st.get a, hd.is Γ.w ep⟩
  exact call_meetsIn PySem.F.slot_dict_items hD.typeIs PySem.F.entry_dict_items (PySem.F.args_dict_items_1 _) (meets_dict_items (PySem.intKind pw Γ.w) d lo) ⟨⟨_, hD⟩, ⟨_, _, _, _, rfl, st.push _, h _⟩⟩
abbrev itemsO (d : Addr) (i n ep : Nat) (ok ov : Value) : Obj := { cls := .type "dict_itemiterator", dict := none, data := .fields #[.none, .bool false, .ref d, .int i 0, .int n 0, .int ep 0, ok, ov], slots := #[] }
theorem iter_items {elts : List PySem.Expr} {kk : Nat} {pos : Pos} {d v : Addr} {es : Array DictEntry} {ep : Nat} {kvs : List (Int × Value)} (a : At d (dictO es ep) led) (hd : IDict es kvs) (av : At v (viewO d) led) :
    IterOf3 Γ gl cl ls led (.Tuple elts kk pos) (.ref v) kvs.length (fun i v own => ∃ a k x t, kvs[i]? = some (k, x) ∧ v = .ref a ∧ own = [(a, tupO [.int k t, x])]) (fun led => At d (dictO es ep) led) led := fun ok h tk tl st => by
  refine wpAny_pyIter_items ⟨_, st.get av, rfl, rfl⟩ (hd.at Γ.w (st.get a)) ⟨_, tk, ls, _, rfl, st.push _, rfl, (fun (i : Nat) (c : List Ent) => ∃ ok ov, c = [(h.objs.size, itemsO d i kvs.length ep ok ov)]), _, rfl, ⟨.none, .none, rfl⟩, ?_⟩
  refine ⟨?_, ?_⟩
  · rintro i c led2 ls2 hi ⟨ok0, ov0, rfl⟩ hk ok2 h2 tk2 tl2 st2
    obtain ⟨⟨k, x⟩, hx⟩ : ∃ p, kvs[i]? = some p := ⟨kvs[i], by simp [hi]⟩
    refine wpAny_pyNext_items_item (knd := PySem.intKind pw Γ.w) (st2.get (.head (.head _))) (hd.at Γ.w (st2.get (.tail hk))) hx fun key h3 hkey ho hT hz hkeep => ?_
    obtain ⟨t, rfl⟩ := Value.isInt_shape hkey
    have st3 : St Γ h3 ls2 ([(h.objs.size, ({ cls := .type "dict_itemiterator", dict := none, data := .fields #[rawInt h2.objs.size, .bool false, .ref d, .int (i + 1 : Nat) 0, .int kvs.length 0, .int ep 0, .int k t, x], slots := #[] } : Obj)), (h2.objs.size, tupO [.int k t, x])] :: led2) tl2 := by
      refine st2.redo (fun b o hb e' => hkeep b o (hb _ (.head _)) e') (fun p hp => ?_) ?_
      · rcases List.mem_cons.mp hp with rfl | hp
        · exact ⟨ho, .inl ⟨_, .head _, rfl⟩⟩
        · rcases List.mem_singleton.mp hp with rfl
          exact ⟨hT, .inr fun b x e' => Nat.ne_of_lt (Heap.lt_size e')⟩
      · have l1 := st2.lt (a := h.objs.size) (.head (.head _))
        simp only [List.map_cons, List.map_nil, List.nodup_cons, List.mem_cons, List.not_mem_nil, or_false, not_false_eq_true, List.nodup_nil, and_true]
        exact Nat.ne_of_lt l1
    refine ⟨h3, _, ls2, _, rfl, st3, .ref h2.objs.size, rfl, rfl, ?_⟩
    intro ok4 h4 tk4 tl4 st4
    refine wpAny_letOwnedTupleGo_items (st4.get (.head (.head _))) fun h5 he5 hs5 => ?_
    have st5 : St Γ h5 ls2 ([(h.objs.size, itemsO d (i + 1) kvs.length ep (.int k t) x), (h2.objs.size, tupO [.int k t, x])] :: led2) tl4 := by
      have hst := st4
      obtain ⟨m, ex, F, N, nd, lc⟩ := hst
      rw [List.flatten_cons, List.append_assoc, List.map_append, List.nodup_append] at nd
      refine st4.redo (fun b o hb e' => (hs5.2 b (hb _ (.head _))).trans e') (fun p hp => ?_) nd.1
      rcases List.mem_cons.mp hp with rfl | hp
      · exact ⟨he5, .inl ⟨_, .head _, rfl⟩⟩
      · have hpe : p.1 ≠ h.objs.size := fun q => by
          have := nd.1
          rw [List.map_cons, List.nodup_cons] at this
          exact this.1 (List.mem_map.mpr ⟨p, hp, q⟩)
        rcases List.mem_singleton.mp hp with rfl
        exact ⟨(hs5.2 _ hpe).trans (st4.get (.head (.tail _ (.head _)))), .inl ⟨_, .tail _ (.head _), rfl⟩⟩
    exact ⟨h5, tk4, ls2, [(h.objs.size, itemsO d (i + 1) kvs.length ep (.int k t) x)] :: [(h2.objs.size, tupO [.int k t, x])] :: led2, rfl, regr st5 (by simp), rfl, _, _, rfl, ⟨_, _, rfl⟩, _, k, x, t, hx, rfl, rfl⟩
  · rintro c led2 ls2 ⟨ok0, ov0, rfl⟩ hk ok2 h2 tk2 tl2 st2
    refine wpAny_pyNext_items_end (knd := PySem.intKind pw Γ.w) ok2.hnd (st2.get (.head (.head _))) (hd.at Γ.w (st2.get (.tail hk))) (by simp) fun h3 hx => ⟨h3, tk2, ls2, led2, rfl, ?_, rfl, rfl, rfl⟩
    exact st2.lose fun b o hb e' => hx b o hb e'
end
theorem ite_nF {P R : Prop} (ht : P) : if (!false) = true then P else R := by simpa using ht
theorem ite_nT {P R : Prop} (hf : R) : if (!true) = true then P else R := by simpa using hf
theorem ints_get : ∀ {vs : List Value} {ns : List Int}, IntsAre vs ns → ∀ {k : Nat}, k < ns.length → ∃ t, vs[k]? = some (.int (ns.getD k 0) t)
  | _, _, .nil, k, h => by cases h
  | _, _, .cons n t r, 0, _ => ⟨t, rfl⟩
  | _, _, .cons n t r, k + 1, h => by
    obtain ⟨u, e⟩ := ints_get r (k := k) (by simpa using h)
    exact ⟨u, by simpa using e⟩
section
variable {Γ : Fm} {gl : List (Str × Value)} {cl : List (Str × Addr)} {ls : Locs} {led led' : Led}
theorem w_sliceT2 {value slice : PySem.Expr} {t sl : Addr} {vs : List Value} {y : Int} {u : Tok} {k : Nat} {ops : List Value} {Q : Value → Locs → Led → Prop}
    (a : At t (tupO vs) led) (b : At sl (sliceO .none (.int y u) .none) led) (hk : (if y < 0 then max (y + vs.length) 0 else min y vs.length) = (k : Int)) (hz : vs.length ≤ 100000)
    (h : ∀ a own, At a (tupO (vs.take k)) (own :: led) → ((a, tupO (vs.take k)) ∈ own ∨ (a = t ∧ vs.take k = vs)) → Q (.ref a) ls (own :: led))
    (hs : subscripted slice false (.ref t) (.ref sl) = operate ops (getItem (.ref t) (.ref sl)) := by with_unfolding_all rfl)
    (hg : ∀ r, letTemporaryGo value (.ref t) r = pure () := by intro _; with_unfolding_all rfl) :
    WP Γ gl cl ls led (subscriptTail value slice (.ref t) (.ref sl)) Q := by
  by_cases e : k = vs.length
  · have e2 : vs.take k = vs := List.take_of_length_le (by lia)
    refine WP.regroup (led' := [] :: led) rfl (w_sliceT (k := k) (.tail a) (.tail b) hk hz (fun _ => h t [] (by rw [e2]; exact .tail a) (.inr ⟨rfl, e2⟩)) (fun q => absurd e q) hs hg)
  · exact w_sliceT (k := k) a b hk hz (fun q => absurd q e) (fun _ x => h x _ (.head (.head _)) (.inl (.head _))) hs hg
/-- an item of a tuple that has stood there from the start -/
theorem w_subTK {value slice : PySem.Expr} {l : Addr} {vs : List Value} {k : Int} {u : Tok} {v : Value} {d : Option Addr} {n : Nat} {sl : Array (Option Value)} {Q : Value → Locs → Led → Prop} (hK : ∀ p, (hK p).lookup l = some ⟨.type "tuple", d, .seq vs.toArray n, sl⟩) (h0 : 0 ≤ k) (hhi : k < 2 ^ 63) (hx : vs[k.toNat]? = some v) (h : Q v ls led)
    (hs : subscripted slice false (.ref l) (.int k u) = operate [.ref l, .int k u] (getItem (.ref l) (.int k u)) := by with_unfolding_all rfl) :
    WP Γ gl cl ls led (subscriptTail value slice (.ref l) (.int k u)) Q := fun ok _ _ _ st => by
  have hlt : k.toNat < vs.length := (List.getElem?_eq_some_iff.mp hx).1
  have hst := st
  obtain ⟨m, ex, F, N, nd, lc⟩ := hst
  refine item_tupleT (j := k.toNat) (isTup_of (cl := .none) (ok.kin.keeps F.keep _ _ (hK Γ.w.params))) (by lia) hhi ?_ hx ⟨_, _, _, _, rfl, st, h⟩ hs
  unfold seqIndex?
  simp [h0]
  lia
/-- a cell's variable is stored -/
theorem w_storeCell {x : Str} {v : Value} {c : Addr} {o : Obj} {ov : Option Value} {Q : Unit → Locs → Led → Prop} (hc : cl.lookup x = some c) (hkc : Γ.env.kindOf x = some .cell) (a : At c o led) (hd : o.data = .cell ov)
    (h : ∀ o' : Obj, o'.data = .cell (some v) → ∃ led', Rep c o o' led led' ∧ Q () ls led') : WP Γ gl cl ls led (storeName Γ.env x v) Q := fun ok _ _ _ st => by
  refine wpAny_storeName_cell ok.kind hkc (ok.clok x c hc).2.2.1 ⟨o, st.get a, hd⟩ fun h' hc' hs => ?_
  obtain ⟨o', ho', hd'⟩ := hc'
  obtain ⟨led', r, hq⟩ := h o' hd'
  exact ⟨h', _, ls, led', rfl, st.change r hs ho', hq⟩
end
theorem ClOk.of {names : List (Str × NameKind)} {cells : List (Str × Addr)} (h : cells.all (fun y => !(y.1 == ("__debug__" : Str)) && (!(y.1 == ("__classdict__" : Str)) && names.lookup y.1 == some .cell)) = true) : ClOk names cells := by
  intro x c e
  induction cells with
  | nil => cases e
  | cons y r ih =>
    rw [List.all_cons, Bool.and_eq_true] at h
    obtain ⟨y1, y2⟩ := y
    rw [List.lookup_cons] at e
    by_cases q : x = y1
    · subst q
      have h1 := h.1
      simp only [Bool.and_eq_true, Bool.not_eq_true', beq_iff_eq] at h1
      exact ⟨h1.1, h1.2.1, h1.2.2⟩
    · have : (x == y1) = false := by simpa using q
      rw [this] at e
      exact ih h.2 e
theorem free_of {names : List (Str × NameKind)} : ∀ {cells : List (Str × Addr)}, (cells.all fun y => names.lookup y.1 == some .free) = true → ∀ {x : Str} {c : Addr}, cells.lookup x = some c → names.lookup x = some .free
  | [], _, _, _, e => by cases e
  | (y1, y2) :: r, h, x, c, e => by
    rw [List.all_cons, Bool.and_eq_true] at h
    rw [List.lookup_cons] at e
    by_cases q : x = y1
    · subst q; simpa using h.1
    · have : (x == y1) = false := by simpa using q
      rw [this] at e
      exact free_of h.2 e
theorem CompOk.of {scope : Scope} {x : Str} {cl cl' : List (Str × Addr)} {gl' : List (Str × Value)} (hk : scope.kind = .function) (h1 : (scope.names.all fun y => !(y.2 == .cell) && (!(y.2 == .local) || scope.names.lookup y.1 == some .local)) = true)
    (nx : scope.names.lookup x = some .local) (xd : (x == ("__debug__" : Str)) = false) (fr : freeOf cl scope.names [] = some cl') (h2 : (cl'.all fun y => scope.names.lookup y.1 == some .free) = true) (gl : ∀ p, GlOk (hK p) scope.names gl') : CompOk scope x cl gl' cl' where
  cell := fun y hy e => by
    have := List.all_eq_true.mp h1 y hy
    rw [e] at this
    simp at this
  kind := hk
  names := fun y hy e => by
    have := List.all_eq_true.mp h1 y hy
    rw [e] at this
    simpa using this
  nx := nx
  xd := xd
  fr := fr
  gl := gl
  free := fun z c e => free_of h2 e
theorem all_sl {P : Addr → Prop} (h : ∀ a, P a) : ∀ a, P a := h

theorem atKey_some_iff {K : Type} [DecidableEq K] (xs : List (K × Addr × Value)) (k : K) : (atKey xs k).isSome = decide (k ∈ xs.map (·.1)) := by
  unfold atKey
  rw [Option.isSome_map]
  induction xs with
  | nil => simp
  | cons x r ih =>
    rw [List.find?_cons]
    by_cases h : x.1 = k
    · simp [h]
    · have h2 : ¬ k = x.1 := fun e => h e.symm
      simp only [h, decide_false, List.map_cons, List.mem_cons, h2, false_or]
      exact ih
theorem atKey_at {K : Type} [DecidableEq K] {xs : List (K × Addr × Value)} (hn : (xs.map (·.1)).Nodup) {x : K × Addr × Value} (h : x ∈ xs) : atKey xs x.1 = some x.2 := by
  obtain ⟨i, hi, rfl⟩ := List.mem_iff_getElem.mp h
  exact atKey_of_get hn (i := i) (by simp [hi])

def GoodW (L : Int) (W : List (List Int)) : Prop := (∀ w ∈ W, (w.length = 2 ∨ w.length = 3) ∧ ∀ x ∈ w, 1 ≤ x ∧ x ≤ L) ∧ (∀ w ∈ W, w.length = 3 → w.take 2 ∈ W) ∧ W.Nodup
theorem GoodW.nil (L : Int) : GoodW L [] := ⟨(fun _ h => by cases h), (fun _ h => by cases h), List.nodup_nil⟩
theorem GoodW.add {L : Int} {W : List (List Int)} {w : List Int} (h : GoodW L W) (hl : w.length = 2 ∨ w.length = 3) (hx : ∀ x ∈ w, 1 ≤ x ∧ x ≤ L) (h3 : w.length = 3 → w.take 2 ∈ W) (hn : w ∉ W) : GoodW L (W ++ [w]) := by
  obtain ⟨a, b, c⟩ := h
  refine ⟨fun v hv => ?_, fun v hv e => ?_, ?_⟩
  · rcases List.mem_append.mp hv with hv | hv
    · exact a v hv
    · rw [List.mem_singleton.mp hv]; exact ⟨hl, hx⟩
  · rcases List.mem_append.mp hv with hv | hv
    · exact List.mem_append_left _ (b v hv e)
    · rw [List.mem_singleton.mp hv] at e ⊢; exact List.mem_append_left _ (h3 e)
  · rw [List.nodup_append]
    refine ⟨c, by simp, fun x hx y hy e => ?_⟩
    rw [List.mem_singleton.mp hy] at e
    exact hn (e ▸ hx)

/-- the dict of words: its entries, and where their keys stand -/
def WX (xs : List (List Int × Addr × Value)) (ts : List Ent) (W : List (List Int)) : Prop :=
  xs.map (·.1) = W ∧ (∀ (i : Nat) (x : List Int × Addr × Value), xs[i]? = some x → ∃ t : Tok, x.2.2 = Value.int (20 + (i : Int)) t) ∧ (∀ x ∈ xs, ∃ vs, (x.2.1, tupO vs) ∈ ts ∧ IntsAre vs x.1)
theorem WX.nil (ts : List Ent) : WX [] ts [] := ⟨rfl, (fun i x h => by simp at h), (fun _ h => by cases h)⟩
theorem WX.mono {xs : List (List Int × Addr × Value)} {ts ts' : List Ent} {W : List (List Int)} (h : WX xs ts W) (k : ∀ x ∈ ts, x ∈ ts') : WX xs ts' W :=
  ⟨h.1, h.2.1, fun x hx => let ⟨vs, a, b⟩ := h.2.2 x hx; ⟨vs, k _ a, b⟩⟩
theorem WX.keys {xs : List (List Int × Addr × Value)} {ts : List Ent} {W : List (List Int)} (h : WX xs ts W) {led : Led} (k : ∀ x ∈ ts, x ∈ led.flatten) : Keys led xs := fun x hx => let ⟨vs, a, b⟩ := h.2.2 x hx; ⟨vs, .of_mem (k _ a), b⟩
theorem WX.len {xs : List (List Int × Addr × Value)} {ts : List Ent} {W : List (List Int)} (h : WX xs ts W) : xs.length = W.length := by rw [← h.1, List.length_map]
theorem WX.has {xs : List (List Int × Addr × Value)} {ts : List Ent} {W : List (List Int)} (h : WX xs ts W) (w : List Int) : (atKey xs w).isSome = decide (w ∈ W) := by rw [atKey_some_iff, h.1]; exact decide_eq_decide.mpr Iff.rfl
theorem WX.add {xs : List (List Int × Addr × Value)} {ts : List Ent} {W : List (List Int)} {w : List Int} {a : Addr} {vs : List Value} {t : Tok} (h : WX xs ts W) (hn : w ∉ W) (ha : (a, tupO vs) ∈ ts) (hi : IntsAre vs w) : WX (storedH xs w a (.int (20 + (W.length : Int)) t)) ts (W ++ [w]) := by
  have hnone : atKey xs w = none := by
    have := h.has w
    rw [decide_eq_false hn] at this
    cases e : atKey xs w with
    | none => rfl
    | some p => rw [e] at this; cases this
  rw [storedH_new hnone]
  refine ⟨by rw [List.map_append, h.1]; rfl, fun i x hx => ?_, fun x hx => ?_⟩
  · rw [List.getElem?_append] at hx
    by_cases hl : i < xs.length
    · rw [if_pos hl] at hx; exact h.2.1 i x hx
    · rw [if_neg hl] at hx
      have : i = xs.length := by
        rcases Nat.lt_or_ge (i - xs.length) 1 with q | q
        · omega
        · rw [List.getElem?_eq_none (by simpa using q)] at hx; cases hx
      subst this
      simp at hx
      subst hx
      exact ⟨t, by rw [h.len]⟩
  · rcases List.mem_append.mp hx with hx | hx
    · exact h.2.2 x hx
    · rw [List.mem_singleton.mp hx]; exact ⟨vs, ha, hi⟩
/-- the words, as one chunk -/
def Words (d : Addr) (W : List (List Int)) (c : List Ent) : Prop := (d == sysModules) = false ∧ ∃ es ep xs ts, c = (d, dictO es ep) :: ts ∧ TDict es xs ∧ WX xs ts W

section
variable {Γ : Fm} {gl : List (Str × Value)} {cl : List (Str × Addr)} {ls : Locs} {led led' : Led} {α β : Type}
theorem w_isNoneR {a : Addr} {Q : Value → Locs → Led → Prop} (h : Q (.bool false) ls led) : WP Γ gl cl ls led (compareOp .Is (.ref a) .none) Q := w_isNone h
theorem w_isNoneN {Q : Value → Locs → Led → Prop} (h : Q (.bool true) ls led) : WP Γ gl cl ls led (compareOp .Is .none .none) Q := w_isNone h
theorem w_isNotNoneR {a : Addr} {Q : Value → Locs → Led → Prop} (h : Q (.bool true) ls led) : WP Γ gl cl ls led (compareOp .IsNot (.ref a) .none) Q := w_isNotNone h
theorem w_isAppend {vs : List Value} {Q : Value → Locs → Led → Prop} (h : WP Γ gl cl ls led (call (.builtin "list.append") vs) Q) : WP Γ gl cl ls led (call (.builtin "list.append") vs) Q := h
theorem WP.ofDrop {t : Sem α} {Q : α → Locs → Led → Prop} {J : Led → Prop} (d : Drop J led) (H : ∀ l, J l → WP Γ gl cl ls l t Q) : WP Γ gl cl ls led t Q := fun ok h tk tl st =>
  let ⟨l, _, p, j⟩ := d
  H l j ok h tk tl (st.dropF p)
theorem ite_cut {p : Prop} [Decidable p] {t1 t2 : Sem α} {Q : α → Locs → Led → Prop} (J : α → Locs → Led → Prop) (h1 : p → WP Γ gl cl ls led t1 J) (h2 : ¬ p → WP Γ gl cl ls led t2 J) (k : ∀ a ls' led', J a ls' led' → Q a ls' led') : if decide p = true then WP Γ gl cl ls led t1 Q else WP Γ gl cl ls led t2 Q :=
  ite_D (fun h => (h1 h).mono k) (fun h => (h2 h).mono k)
theorem ite_cutD {p : Prop} [Decidable p] {t1 t2 : Sem Value} {Q : Value → Locs → Led → Prop} (J : Value → Prop) (h1 : p → WP Γ gl cl ls led t1 (fun v ls' led' => ls' = ls ∧ Drop (fun l => l = led) led' ∧ J v)) (h2 : ¬ p → WP Γ gl cl ls led t2 (fun v ls' led' => ls' = ls ∧ Drop (fun l => l = led) led' ∧ J v))
    (k : ∀ v led', Drop (fun l => l = led) led' → J v → Q v ls led') : if decide p = true then WP Γ gl cl ls led t1 Q else WP Γ gl cl ls led t2 Q :=
  ite_cut _ h1 h2 fun v ls' led' ⟨e, d, j⟩ => by subst e; exact k v led' d j
theorem ite_cutN {p : Prop} [Decidable p] {t1 t2 : Sem Value} {Q : Value → Locs → Led → Prop} (J : Value → Prop) (h1 : ¬ p → WP Γ gl cl ls led t1 (fun v ls' led' => ls' = ls ∧ Drop (fun l => l = led) led' ∧ J v)) (h2 : p → WP Γ gl cl ls led t2 (fun v ls' led' => ls' = ls ∧ Drop (fun l => l = led) led' ∧ J v))
    (k : ∀ v led', Drop (fun l => l = led) led' → J v → Q v ls led') : if (!decide p) = true then WP Γ gl cl ls led t1 Q else WP Γ gl cl ls led t2 Q :=
  ite_N (fun h => (h1 h).mono fun v ls' led' ⟨e, d, j⟩ => by subst e; exact k v led' d j) (fun h => (h2 h).mono fun v ls' led' ⟨e, d, j⟩ => by subst e; exact k v led' d j)
theorem ite_cutS {b : Bool} {t1 t2 : Sem Flow} {Q : Flow → Locs → Led → Prop} (J : Locs → Led → Prop) (h1 : b = true → WP Γ gl cl ls led t1 (fun f ls' led' => f = .next ∧ J ls' led')) (h2 : b = false → WP Γ gl cl ls led t2 (fun f ls' led' => f = .next ∧ J ls' led'))
    (k : ∀ ls' led', J ls' led' → Q .next ls' led') : if b = true then WP Γ gl cl ls led t1 Q else WP Γ gl cl ls led t2 Q := by
  cases b with
  | true => simp only [if_true]; exact (h1 rfl).mono fun f ls' led' ⟨e, j⟩ => by subst e; exact k _ _ j
  | false => simp only [Bool.false_eq_true, if_false]; exact (h2 rfl).mono fun f ls' led' ⟨e, j⟩ => by subst e; exact k _ _ j
/-- a while by an invariant (up to what is forgotten) and a measure -/
theorem w_while2 {test : PySem.Expr} {body : List Stmt} {pos : Pos} {Q : Flow → Locs → Led → Prop} (I : Nat → Locs → Led → Prop) (n₀ : Nat) (h0 : Drop (I n₀ ls) led)
    (step : ∀ n ls led (K : Flow → Locs → Led → Prop), I n ls led → (∀ f ls3 led3, NC f → (∃ m, m < n ∧ Drop (I m ls3) led3) → K f ls3 led3) → (∀ r ls3 led3, Q (.ret r) ls3 led3 → K (.ret r) ls3 led3) → (∀ ls3 led3, Q .next ls3 led3 → K .brk ls3 led3) →
      WP Γ gl cl ls led (isTrue test Γ.env (eval test Γ.env)) (fun b ls1 led1 => if b then WP Γ gl cl ls1 led1 (execs body Γ.env) K else Q .next ls1 led1)) : WP Γ gl cl ls led (exec (.While test body [] pos) Γ.env) Q := by
  refine w_while (fun n ls led => Drop (I n ls) led) n₀ h0 fun n ls led d => WP.ofDrop d fun l j => ?_
  refine step n ls l _ j (fun f ls3 led3 nc h => ?_) (fun _ _ _ h => h) (fun _ _ h => h)
  cases f with
  | next => exact h
  | cont => exact h
  | brk => exact nc.elim
  | ret _ => exact nc.elim
/-- the last item: l[-1] -/
theorem w_subLast {value slice : PySem.Expr} {l : Addr} {vs : List Value} {n : Nat} {u : Tok} {v : Value} {Q : Value → Locs → Led → Prop} (a : At l (listOf (List.toArray (vs ++ [v])) n) led) (hz : vs.length < 100000) (h : Q v ls led)
    (hs : subscripted slice false (.ref l) (.int (-1) u) = operate [.ref l, .int (-1) u] (getItem (.ref l) (.int (-1) u)) := by with_unfolding_all rfl) :
    WP Γ gl cl ls led (subscriptTail value slice (.ref l) (.int (-1) u)) Q := fun _ _ _ _ st => by
  have hl := w_isList st a
  have e : (vs ++ [v]).toArray.size = vs.length + 1 := by simp
  refine tail_any hl.typeIs slot_list_getitem.lookup (wpAny_getItem_list_neg hl (by decide) (by rw [e]; lia) (by decide) ?_ ⟨_, _, _, _, rfl, st, h⟩) hs
  rw [e, show ((-1 : Int) + ((vs.length + 1 : Nat) : Int)).toNat = vs.length by lia]
  simp
theorem w_subTLast {value slice : PySem.Expr} {l : Addr} {vs : List Value} {u : Tok} {v : Value} {Q : Value → Locs → Led → Prop} (a : At l (tupO (vs ++ [v])) led) (hz : vs.length < 100000) (h : Q v ls led)
    (hs : subscripted slice false (.ref l) (.int (-1) u) = operate [.ref l, .int (-1) u] (getItem (.ref l) (.int (-1) u)) := by with_unfolding_all rfl) :
    WP Γ gl cl ls led (subscriptTail value slice (.ref l) (.int (-1) u)) Q := fun _ _ _ _ st => by
  refine item_tupleT (j := vs.length) (isTup_of (cl := .none) (st.get a)) (by decide) (by decide) ?_ (by simp) ⟨_, _, _, _, rfl, st, h⟩ hs
  unfold seqIndex?
  simp
  lia
theorem Rd.str (x : Str) (t : Tok) : Rd led (.str x t) (.str x) := fun _ _ => ⟨_, .str x t⟩
theorem none_and {P : Prop} (h : P) : (∀ a, Value.none ≠ Value.ref a) ∧ P := ⟨(fun _ e => nomatch e), h⟩
/-- an int in a tuple of ints that has stood from the start -/
theorem w_inTK {l : Addr} {vs : List Value} {ns : List Int} {i : Int} {u : Tok} {d : Option Addr} {n : Nat} {sl : Array (Option Value)} {Q : Value → Locs → Led → Prop} (hK : ∀ p, (hK p).lookup l = some ⟨.type "tuple", d, .seq vs.toArray n, sl⟩) (hi : IntsAre vs ns)
    {b : Bool} (hb : ((ns.map PyData.int).any fun y => PyData.eqv y (.int i)) = b) (h : Q (.bool b) ls led) : WP Γ gl cl ls led (compareOp .In (.int i u) (.ref l)) Q := fun ok hp tk tl st => by
  subst hb
  have hst := st
  obtain ⟨m, ex, F, N, nd, lc⟩ := hst
  have e := ok.kin.keeps F.keep _ _ (hK Γ.w.params)
  have hrd : ∀ {vs : List Value} {ns : List Int}, IntsAre vs ns → ∃ as, ReadsAll hp vs (ns.map PyData.int) as := by
    intro vs ns hi
    induction hi with
    | nil => exact ⟨_, .nil⟩
    | cons n t _ ih => obtain ⟨as, a⟩ := ih; exact ⟨_, .cons (.int n t) a⟩
  obtain ⟨as, ra⟩ := hrd hi
  have hlay : ∀ ns : List Int, PyData.canLayAll0 (ns.map PyData.int) = true := by
    intro ns
    induction ns with
    | nil => rfl
    | cons a r ih => exact ih
  have hdep : ∀ ns : List Int, PyData.depthAll (ns.map PyData.int) ≤ 9 := by
    intro ns
    induction ns with
    | nil => exact Nat.zero_le _
    | cons a r ih =>
      have : PyData.depthAll ((a :: r).map PyData.int) = max (PyData.depth (.int a)) (PyData.depthAll (r.map PyData.int)) := rfl
      rw [this]
      exact Nat.max_le.mpr ⟨Nat.le_of_ble_eq_true rfl, ih⟩
  have hu := ok.units
  refine SeqAt.in_tuple_reads (.tuple e rfl rfl (by simpa using ra)) (.int i u) (hlay ns) rfl ?_ ⟨_, _, _, _, rfl, st, h⟩
  have := hdep ns
  have : min (PyData.depthAll (ns.map PyData.int)) (PyData.depth (.int i)) ≤ PyData.depthAll (ns.map PyData.int) := Nat.min_le_left _ _
  lia
end

section
variable {w : World} {A : Around} {R : Result → Shared → Prop} {s : Shared}
abbrev twoComp (elt t iter t2 iter2 : PySem.Expr) (scope : Scope) (pos : Pos) : PySem.Expr := .ListComp elt [⟨t, iter, [], 0⟩, ⟨t2, iter2, [], 0⟩] scope pos
theorem compTurn_two0 (elt t iter t2 iter2 : PySem.Expr) (scope : Scope) (pos : Pos) (it acc : Value) (env : Env) :
    compTurn (twoComp elt t iter t2 iter2 scope pos) 0 it acc env = (standAt iter.pos >>= fun _ => pyNext it >>= fun r => match r with
      | none => pure (.done .next)
      | some v => letOwnedTupleGo t it v >>= fun _ => assign t env v >>= fun _ =>
        (eval iter2 env >>= fun x => standAt iter2.pos >>= fun _ => foldedSetIterable iter2 env x >>= fun x => holding [x] (pyIter x) >>= fun i2 => runOwn (.compStart (twoComp elt t iter t2 iter2 scope pos) 1 i2 acc env) env >>= fun _ =>
          again (.compLoop (twoComp elt t iter t2 iter2 scope pos) 0 it acc env))) := by rfl
theorem compTurn_two1 (elt t iter t2 iter2 : PySem.Expr) (scope : Scope) (pos : Pos) (it acc : Value) (env : Env) :
    compTurn (twoComp elt t iter t2 iter2 scope pos) 1 it acc env = (standAt iter2.pos >>= fun _ => pyNext it >>= fun r => match r with
      | none => pure (.done .next)
      | some v => letOwnedTupleGo t2 it v >>= fun _ => assign t2 env v >>= fun _ =>
        (eval elt env >>= fun x => call (.builtin "list.append") [acc, x] >>= fun _ => pure ()) >>= fun _ =>
          again (.compLoop (twoComp elt t iter t2 iter2 scope pos) 1 it acc env)) := by rfl

theorem loop_two0 {elt t iter t2 iter2 : PySem.Expr} {scope : Scope} {pos : Pos} {it acc : Value} {env : Env} (I : Nat → Shared → Prop)
    (turn : ∀ n s, I n s → wpAny (model pw w) A (pyNext it) (fun r s₁ => match r with
      | none => R (.ok .next) s₁
      | some v => wpAny (model pw w) A (assign t env v) (fun _ s₂ => wpAny (model pw w) A (eval iter2 env) (fun x s₃ => wpAny (model pw w) A (pyIter x) (fun i2 s₄ =>
          wpAny (model pw w) A (runOwn (.compStart (twoComp elt t iter t2 iter2 scope pos) 1 i2 acc env) env) (fun _ s₅ => ∃ m, m < n ∧ I m s₅) noE s₄) noE s₃) noE s₂) noE s₁) noE s)
    (n : Nat) (h : I n s) (ht : ∀ v, letOwnedTupleGo t it v = pure () := by intro _; rfl) (hs : ∀ x, foldedSetIterable iter2 env x = pure x := by intro _; rfl) :
    codeAny (model pw w) A (.compLoop (twoComp elt t iter t2 iter2 scope pos) 0 it acc env) R s := by
  refine codeAny_loop rfl I (fun n s hI => ?_) n h
  show wpAny _ _ ((compTurn (twoComp elt t iter t2 iter2 scope pos) 0 it acc env).onRaise (fun x => do noteFrame x env; theTreesLotGoes x)) _ _ s
  refine wpAny_noted ?_
  rw [compTurn_two0]
  refine wpAny_bind (wpAny_standAt (wpAny_bind (wpAny_mono (turn n s hI) (fun r s₁ h₁ => ?_) fun _ _ h' => h'.elim)))
  cases r with
  | none => exact wpAny_pure h₁
  | some v =>
    refine wpAny_bind (wpAny_of_eq (ht v) ?_)
    refine wpAny_bind (wpAny_mono h₁ (fun _ s₂ h₂ => wpAny_bind (wpAny_mono h₂ (fun x s₃ h₃ => wpAny_bind (wpAny_standAt (wpAny_bind (wpAny_of_eq (hs x) (wpAny_bind (wpAny_holding (wpAny_mono h₃ (fun i2 s₄ h₄ => wpAny_bind (wpAny_mono h₄
      (fun _ s₅ h₅ => wpAny_pure ⟨rfl, h₅⟩) fun _ _ h' => h'.elim)) fun _ _ h' => h'.elim))))))) fun _ _ h' => h'.elim)) fun _ _ h' => h'.elim)
theorem loop_two1 {elt t iter t2 iter2 : PySem.Expr} {scope : Scope} {pos : Pos} {it acc : Value} {env : Env} (I : Nat → Shared → Prop)
    (turn : ∀ n s, I n s → wpAny (model pw w) A (pyNext it) (fun r s₁ => match r with
      | none => R (.ok .next) s₁
      | some v => wpAny (model pw w) A (assign t2 env v) (fun _ s₂ => wpAny (model pw w) A (eval elt env) (fun x s₃ =>
          wpAny (model pw w) A (call (.builtin "list.append") [acc, x]) (fun _ s₄ => ∃ m, m < n ∧ I m s₄) noE s₃) noE s₂) noE s₁) noE s)
    (n : Nat) (h : I n s) (ht : ∀ v, letOwnedTupleGo t2 it v = pure () := by intro _; rfl) :
    codeAny (model pw w) A (.compLoop (twoComp elt t iter t2 iter2 scope pos) 1 it acc env) R s := by
  refine codeAny_loop rfl I (fun n s hI => ?_) n h
  show wpAny _ _ ((compTurn (twoComp elt t iter t2 iter2 scope pos) 1 it acc env).onRaise (fun x => do noteFrame x env; theTreesLotGoes x)) _ _ s
  refine wpAny_noted ?_
  rw [compTurn_two1]
  refine wpAny_bind (wpAny_standAt (wpAny_bind (wpAny_mono (turn n s hI) (fun r s₁ h₁ => ?_) fun _ _ h' => h'.elim)))
  cases r with
  | none => exact wpAny_pure h₁
  | some v =>
    refine wpAny_bind (wpAny_of_eq (ht v) ?_)
    exact wpAny_bind (wpAny_mono h₁ (fun _ s₂ h₂ => wpAny_bind (wpAny_bind (wpAny_mono h₂ (fun x s₃ h₃ => wpAny_bind (wpAny_mono h₃
      (fun _ s₄ h₄ => wpAny_pure (wpAny_pure ⟨rfl, h₄⟩)) fun _ _ h' => h'.elim)) fun _ _ h' => h'.elim))) fun _ _ h' => h'.elim)
theorem start_two1 {elt t iter t2 iter2 : PySem.Expr} {scope : Scope} {pos : Pos} {it acc : Value} {env : Env}
    (h0 : codeAny (model pw w) A (.compLoop (twoComp elt t iter t2 iter2 scope pos) 1 it acc env) R s)
    (h : wpAny (model pw w) A (pyIter it) (fun it' s' => codeAny (model pw w) A (.compLoop (twoComp elt t iter t2 iter2 scope pos) 1 it' acc env) R s') noE s) :
    codeAny (model pw w) A (.compStart (twoComp elt t iter t2 iter2 scope pos) 1 it acc env) R s := by
  refine codeAny_of_tree ?_
  show wpAny _ _ ((compStart (twoComp elt t iter t2 iter2 scope pos) 1 it acc env).onRaise (fun x => do noteFrame x env; standAt theWindowsPlace)) _ _ s
  refine wpAny_notedAt ?_
  unfold compStart
  show wpAny _ _ (ask >>= _) _ _ s
  refine wpAny_bind (wpAny_askSetting (wpAny_ite ?_))
  split
  · first
      | exact wpAny_bind (wpAny_pure (wpAny_pure (And.intro rfl h0)))
      | exact wpAny_pure (And.intro rfl h0)
  · first
      | exact wpAny_bind (wpAny_rule (wpAny_bind (wpAny_standAt (wpAny_bind (wpAny_mono h (fun it' s' h' => wpAny_pure (And.intro rfl h')) fun _ _ x => x.elim)))))
      | (refine wpAny_bind (wpAny_rule ?_); show wpAny _ _ (standAt iter2.pos >>= _) _ _ s; exact wpAny_bind (wpAny_standAt (wpAny_bind (wpAny_mono h (fun it' s' h' => wpAny_pure (And.intro rfl h')) fun _ _ x => x.elim))))
end
section
variable {Γ : Fm} {gl gl' : List (Str × Value)} {cl cl' : List (Str × Addr)} {ls lsc : Locs} {led led' : Led}
inductive WI (Γ : Fm) (x r : Str) (ox : Option Value) (tl : List Ent) (vs ys : List Value) (its : Nat → List Ent → Prop) (D : Addr) (led : Led) : Nat → Shared → Prop
  | mk (i : Nat) (h : Heap) (tk : Nat) (c : List Ent) (ov : Option Value) (cnt : Nat) (st : St Γ h [(x, ox), (r, ov)] (c :: [(D, listOf (List.toArray (ys ++ vs.take i)) cnt)] :: led) tl) (hc : its i c) (hle : i ≤ vs.length) : WI Γ x r ox tl vs ys its D led (vs.length + 1 - i) ⟨h, Γ.gens, Γ.drawn, tk, Γ.os⟩
/-- the inner clause: row by row into the list D -/
theorem w_inner {t iter iter2 : PySem.Expr} {x r : Str} {pr pr2 pos : Pos} {scope : Scope} {it : Value} {vs ys : List Value} {its : Nat → List Ent → Prop} {kp : Led → Prop} {D : Addr} {cnt : Nat} {c : List Ent} {ox ov : Option Value} {mf : Str → Option Value}
    (hc : Γ.comp = some mf) (hl : (r == x) = false) (W : Wk Γ gl cl it vs.length (fun i v => vs[i]? = some v) its kp) (hk : ∀ D o, kp ([(D, o)] :: led)) (h0 : its 0 c) (hz : ys.length + vs.length < 100000) :
    WP Γ gl cl [(x, ox), (r, ov)] (c :: [(D, listOf (List.toArray ys) cnt)] :: led) (runOwn (.compStart (twoComp (.Name r pr) t iter (.Name r pr2) iter2 scope pos) 1 it (.ref D) Γ.env) Γ.env)
      (fun _ ls' led' => ∃ ov' cnt', ls' = [(x, ox), (r, ov')] ∧ led' = [(D, listOf (List.toArray (ys ++ vs)) cnt')] :: led) := fun ok h tk tl st => by
  have loop : ∀ h tk, St Γ h [(x, ox), (r, ov)] (c :: [(D, listOf (List.toArray ys) cnt)] :: led) tl → codeAny (model pw Γ.w) Γ.A (.compLoop (twoComp (.Name r pr) t iter (.Name r pr2) iter2 scope pos) 1 it (.ref D) Γ.env)
      (fun q s' => match q with | .ok f => Post Γ (fun (_ : Flow) ls' led' => ∃ ov' cnt', ls' = [(x, ox), (r, ov')] ∧ led' = [(D, listOf (List.toArray (ys ++ vs)) cnt')] :: led) tl f s' | .error e => cameBackBy (model pw Γ.w) Γ.A Γ.env noE e s') ⟨h, Γ.gens, Γ.drawn, tk, Γ.os⟩ := fun h tk st => by
    refine loop_two1 (WI Γ x r ox tl vs ys its D led) ?_ (vs.length + 1) (.mk 0 h tk c ov cnt (by rwa [List.take_zero, List.append_nil]) h0 (Nat.zero_le _))
    rintro k s' ⟨i, h1, tk1, c1, ov1, cnt1, st1, hc1, hle⟩
    by_cases hlt : i < vs.length
    · refine W.itemGo hlt hc1 (hk _ _) ok st1 fun v h2 tk2 c2 hP hc2 st2 => ?_
      refine WP.goE (w_assignName (w_storeC hc (.tail hl .head) ⟨rfl, rfl⟩)) ok st2 fun _ h4 tk4 st4 => ?_
      refine WP.goV (w_loc (by rw [List.lookup_cons, hl]; rw [List.lookup_cons, beq_self_eq_true]) ⟨rfl, rfl, rfl⟩) ok st4 fun h5 tk5 st5 => ?_
      have hz1 : (ys ++ vs.take i).length ≤ 99999 := by rw [List.length_append, List.length_take]; exact Nat.le_trans (Nat.add_le_add_left (Nat.min_le_right _ _) _) (Nat.le_of_lt_succ hz)
      refine WP.goE (w_append (.tail .head) (Nat.le_trans hz1 (Nat.le_of_ble_eq_true rfl)) ⟨rfl, rfl⟩) ok st5 fun _ h7 tk7 st7 => ?_
      have e : (ys ++ vs.take i) ++ [v] = ys ++ vs.take (i + 1) := by rw [List.take_add_one, hP, List.append_assoc]; rfl
      rw [e] at st7
      exact ⟨_, Nat.sub_lt_sub_left (Nat.lt_succ_of_lt hlt) (Nat.lt_succ_self i), .mk (i + 1) h7 tk7 c2 _ (cnt1 + 1) st7 hc2 hlt⟩
    · obtain rfl : i = vs.length := Nat.le_antisymm hle (Nat.le_of_not_lt hlt)
      rw [List.take_length] at st1
      exact W.doneGo hc1 (hk _ _) ok st1 fun h3 tk3 st3 => ⟨h3, tk3, _, _, rfl, st3, ov1, cnt1, rfl, rfl⟩
  exact wpAny_runOwn (start_two1 (loop _ _ st) (W.selfGo h0 (hk _ _) ok st fun h3 tk3 st3 => loop _ _ st3))

def CompStep2 (Γ : Fm) (gl' : List (Str × Value)) (cl' : List (Str × Addr)) (x r : Str) (iter2 : PySem.Expr) (n : Nat) (P : Nat → Value → Prop) (I : Nat → List Value → Led → Prop) : Prop :=
  ∀ (Γc : Fm) i v ys led ov (K : Value → Locs → Led → Prop), Γc.room = Γ.room → (∃ m, Γc.comp = some m) → i < n → P i v → I i ys led → (∀ l vs nn led2, Drop (fun led3 => At l (listOf vs.toArray nn) led3 ∧ I (i + 1) (ys ++ vs) led3) led2 → K (.ref l) [(x, some v), (r, ov)] led2) →
    WP Γc gl' cl' [(x, some v), (r, ov)] led (eval iter2 Γc.env) K
inductive Sh2 (x r : Str) : Locs → Prop
  | mk (ov ow : Option Value) : Sh2 x r [(x, ov), (r, ow)]
theorem St.pullD {h : Heap} {tl c : List Ent} {e : Ent} (st : St Γ h ls led (c ++ e :: tl)) : St Γ h ls ([e] :: led) (c ++ tl) := st.perm (by
  rw [← List.append_assoc, List.flatten_cons, List.singleton_append, List.cons_append, ← List.append_assoc]; exact List.perm_middle)
theorem St.putD {h : Heap} {tl c : List Ent} {e : Ent} (st : St Γ h ls ([e] :: led) (c ++ tl)) : St Γ h ls (c :: led) (e :: tl) := St.put (St.perm st.swapOut (by
  simp only [List.flatten_cons, ← List.append_assoc]; exact List.Perm.append_right _ (List.Perm.append_right _ List.perm_append_comm)))
theorem comp_loop2 {iter iter2 : PySem.Expr} {x r : Str} {px pr pr2 pos : Pos} {scope : Scope} {it : Value} {n : Nat} {P : Nat → Value → Prop} {its : Nat → List Ent → Prop} {kp : Led → Prop} {I : Nat → List Value → Led → Prop} {R : Result → Shared → Prop} {C D : Addr}
    (hc : Γ.comp = none) (ok : Γ.Ok gl cl) (W : Wk Γ gl cl it n P its kp) (hkind : scope.kind = .function) (hx : scope.names.lookup x = some .local) (hxd : (x == ("__debug__" : Str)) = false) (hr : scope.names.lookup r = some .local) (hrd : (r == ("__debug__" : Str)) = false) (hrx : (r == x) = false)
    (hfr : freeOf cl scope.names [] = some cl') (hgl : ∀ p, GlOk (hK p) scope.names gl') (hfree : ∀ x c, cl'.lookup x = some c → scope.names.lookup x = some .free)
    (hI : ∀ i ys led, I i ys led → kp led ∧ ys.length < 100000)
    (step : CompStep2 Γ gl' cl' x r iter2 n P I)
    (hs : ∀ env : Env, ∀ x, foldedSetIterable iter2 env x = pure x)
    {h : Heap} {tk : Nat} {tl : List Ent} {oC : Obj} {mC : Str → Option Value} {ov ow : Option Value} {c : List Ent} {cnt : Nat} (st : St Γ h ls (c :: led) ((C, oC) :: (D, listOf #[] cnt) :: tl)) (hn : NsO C oC mC) (hi : NsIs mC [(x, ov), (r, ow)]) (h0 : its 0 c) (hI0 : I 0 [] led)
    (hR : ∀ h' tk' oC mC ys cnt led', St Γ h' ls ([(C, oC)] :: [(D, listOf (List.toArray ys) cnt)] :: led') tl → NsO C oC mC → I n ys led' → R (.ok .next) ⟨h', Γ.gens, Γ.drawn, tk', Γ.os⟩) :
    codeAny (model pw Γ.w) Γ.A (.compLoop (twoComp (.Name r pr) (.Name x px) iter (.Name r pr2) iter2 scope pos) 0 it (.ref D) (compEnvC scope cl' C Γ.env)) R ⟨h, Γ.gens, Γ.drawn, tk, Γ.os⟩ := by
  refine loop_two0 (CI Γ ls tl n its I (Sh2 x r) C D) ?_ (n + 1) (.mk 0 h tk led c oC mC _ [] cnt st hn hi ⟨ov, ow⟩ h0 hI0 (Nat.zero_le _)) (hs := hs _)
  rintro k s' ⟨i, h1, tk1, led1, c1, oC1, mC1, lsc, ys, cnt1, st1, hn1, hi1, ⟨ov1, ow1⟩, hc1, hI1, hle⟩
  by_cases hlt : i < n
  · refine W.itemGo hlt hc1 (hI _ _ _ hI1).1 ok st1 fun v h2 tk2 c2 hP hc2 st2 => ?_
    obtain ⟨m, stc, back⟩ := toC (scope := scope) (cl' := cl') hc st2.pull hn1 hi1 (fun y oy hy => lk_two y oy hy (fun e _ => e ▸ ⟨hx, hxd⟩) fun e _ => e ▸ ⟨hr, hrd⟩)
    have okc : (cFm Γ scope cl' C m).Ok gl' cl' := cOk ok hkind hfr hgl hfree
    refine WP.goE (Γ := cFm Γ scope cl' C m) (w_assignName (w_storeC (mf := m) rfl .head ⟨rfl, rfl⟩)) okc stc.swapIn fun _ h4 tk4 st4 => ?_
    refine WP.go (step (cFm Γ scope cl' C m) i v ys led1 ow1 (fun xv ls2 led2 => ls2 = [(x, some v), (r, ow1)] ∧ ∃ l vs nn, xv = .ref l ∧ Drop (fun led3 => At l (listOf vs.toArray nn) led3 ∧ I (i + 1) (ys ++ vs) led3) led2) rfl ⟨m, rfl⟩ hlt hP hI1 (fun l vs nn _ h => ⟨rfl, l, vs, nn, rfl, h⟩)) okc st4 ?_
    rintro xv h5 tk5 ls5 led5 st5 ⟨rfl, l, vs, nn, rfl, led3, rr, pk, hat, hI5⟩
    refine WP.go (iter_list (cl := cl') (gl := gl') (.tail hat)) okc (st5.dropF pk).pullD fun it6 h6 tk6 ls6 led6 st6 hq => ?_
    obtain ⟨rfl, its3, c3, rfl, hc3, W3⟩ := hq
    refine WP.go (w_inner (mf := m) rfl hrx W3 (fun _ _ => .tail hat) hc3 (by have := (hI _ _ _ hI5).2; rwa [List.length_append] at this)) okc st6 fun _ h7 tk7 ls7 led7 st7 hq => ?_
    obtain ⟨ow7, cnt7, rfl, rfl⟩ := hq
    obtain ⟨oC5, mC5, hn5, hi5, st8⟩ := back _ _ _ _ st7.putD
    exact ⟨n + 1 - (i + 1), Nat.sub_lt_sub_left (Nat.lt_succ_of_lt hlt) (Nat.lt_succ_self i), .mk (i + 1) h7 tk7 led3 c2 oC5 mC5 _ _ cnt7 st8.put hn5 hi5 ⟨_, _⟩ hc2 hI5 hlt⟩
  · obtain rfl : i = n := Nat.le_antisymm hle (Nat.le_of_not_lt hlt)
    exact W.doneGo hc1 (hI _ _ _ hI1).1 ok st1 fun h3 tk3 st3 => hR h3 tk3 oC1 mC1 ys cnt1 led1 st3.pull2 hn1 hI1

inductive CompIter2 (Γ : Fm) (gl gl' : List (Str × Value)) (cl cl' : List (Str × Addr)) (x r : Str) (iter2 : PySem.Expr) (K : Value → Locs → Led → Prop) (xv : Value) (ls : Locs) (led : Led) : Prop
  | mk (n : Nat) (P : Nat → Value → Prop) (kp : Led → Prop) (I : Nat → List Value → Led → Prop) (it : IterOf Γ gl cl ls led xv n P kp) (h0 : Drop (I 0 []) led) (hk : ∀ i ys led, I i ys led → kp led ∧ ys.length < 100000) (step : CompStep2 Γ gl' cl' x r iter2 n P I)
      (done : ∀ D cnt ys led', I n ys led' → K (.ref D) ls ([(D, listOf (List.toArray ys) cnt)] :: led')) : CompIter2 Γ gl gl' cl cl' x r iter2 K xv ls led
/-- [row for x in iter for row in iter2] -/
theorem w_ListComp2 {iter iter2 : PySem.Expr} {x r : Str} {px pr pr2 pos : Pos} {scope : Scope} {Q : Value → Locs → Led → Prop} (hc : Γ.comp = none) (S : CompOk scope x cl gl' cl') (hr : scope.names.lookup r = some .local) (hrd : (r == ("__debug__" : Str)) = false) (hrx : (r == x) = false)
    (H : WP Γ gl cl ls led (eval iter Γ.env) (CompIter2 Γ gl gl' cl cl' x r iter2 Q))
    (hs : ∀ x, foldedSetIterable iter Γ.env x = pure x := by intro _; rfl) (hs2 : ∀ env : Env, ∀ x, foldedSetIterable iter2 env x = pure x := by intro _ _; rfl) : WP Γ gl cl ls led (eval (twoComp (.Name r pr) (.Name x px) iter (.Name r pr2) iter2 scope pos) Γ.env) Q := fun ok h tk tl st => by
  rw [eval_ListComp]
  refine wpAny_comprehension_free (use := none) rfl hs (closureFor_of (fun x c hx => (ok.clok x c hx).2.2.1) S.fr) S.kind S.names (H.run ok st fun xv h1 tk1 ls1 led1 st1 ⟨n, P, kp, I, hIt, hI0, hI, step, done⟩ => WP.run hIt ok st1 fun it h2 tk2 ls2 led2 st2 hq => ?_)
  obtain ⟨rfl, its, c, rfl, hc0, W⟩ := hq
  obtain ⟨led1', r0, pk0, hI0⟩ := hI0
  replace st2 := (st2.swapIn.dropF pk0).swapOut
  refine wpAny_newObj_type (wpAny_newFunctionEnv S.cell (by intro y hy; cases hy) (fun h₁ hns₁ hsb₁ => ?_) S.kind)
  obtain ⟨oC, hoC, hnO⟩ := NsO.of hns₁
  have st4 := (((st2.push (listOf #[] 0)).push { cls := .type "dict", data := .dict #[] }).change .head hsb₁ hoC).put2
  have loop : ∀ h₁ tk', St Γ h₁ ls2 (c :: led1') (((h2.push (listOf #[] 0)).objs.size, oC) :: (h2.objs.size, listOf #[] 0) :: tl) → codeAny (model pw Γ.w) Γ.A (.compLoop (twoComp (.Name r pr) (.Name x px) iter (.Name r pr2) iter2 scope pos) 0 it (.ref h2.objs.size) (compEnvC scope cl' (h2.push (listOf #[] 0)).objs.size Γ.env)) (compPost (model pw Γ.w) Γ.A noE none (Post Γ Q tl) (.ref h2.objs.size) (h2.push (listOf #[] 0)).objs.size) ⟨h₁, Γ.gens, Γ.drawn, tk', Γ.os⟩ := fun h₁ tk' st4 =>
    comp_loop2 hc ok W S.kind S.nx S.xd hr hrd hrx S.fr S.gl S.free hI step hs2 st4 hnO (ov := none) (ow := none) (fun z oz hz => lk_two z oz hz (fun _ e => e ▸ rfl) fun _ e => e ▸ rfl) hc0 hI0 fun h' tk' oC mC ys cnt led' st3 hn3 hI3 =>
      ⟨mC, hn3 _ (st3.get (.head (.head _))), fun h'' hs'' => ⟨h'', tk', ls2, _, rfl, st3.lose fun b o hb e => (hs''.2 b hb).trans e, done _ _ _ _ hI3⟩⟩
  exact codeAny_compStart_list (loop _ _ st4) (W.selfGo hc0 (hI _ _ _ hI0).1 ok st4 fun h3 tk3 s3 => loop h3 tk3 s3)
end

def Std (s : Addr) (vs : List Value) (h : Heap) : Prop := h.IsList s vs.toArray
theorem Std.keep {s : Addr} {vs : List Value} {h h' : Heap} (S : Std s vs h) (k : ∀ b o, h.get? b = some o → h'.get? b = some o) : Std s vs h' := by
  obtain ⟨o, e, r⟩ := S
  exact ⟨o, k _ _ e, r⟩
/-- as Fn, for a list that has stood there from the start -/
def FnS (s : Addr) (vs : List Value) (n : Nat) (f : Addr) (args : List Value) (fp : Led) (P : Value → Led → Prop) : Prop :=
  ∀ (Γ : Fm) (gl : List (Str × Value)) (cl : List (Str × Addr)) (ls : Locs), Std s vs Γ.h₀ → n ≤ Γ.room → Γ.Ok gl cl → ∀ (h : Heap) (tk : Nat) (tl : List Ent), St Γ h ls fp tl →
    codeAny (model pw Γ.w) Γ.A (.call (.ref f) ⟨args, []⟩) (fun r s' => ∃ v h' tk' led', r = .ok (.ret v) ∧ s' = ⟨h', Γ.gens, Γ.drawn, tk', Γ.os⟩ ∧ St Γ h' ls led' tl ∧ P v led') ⟨h, Γ.gens, Γ.drawn, tk, Γ.os⟩
section
variable {Γ : Fm} {gl : List (Str × Value)} {cl : List (Str × Addr)} {ls : Locs} {led : Led} {α β : Type}
theorem w_lenS {l : Addr} {vs : List Value} {Q : Value → Locs → Led → Prop} (a : Std l vs Γ.h₀) (hz : vs.length ≤ 100000) (h : ∀ t, Q (.int vs.length t) ls led) : WP Γ gl cl ls led (call (.builtin "len") [.ref l]) Q :=
  fun _ _ _ _ st => call_len_list (items := vs.toArray) (by obtain ⟨m, ex, F, _⟩ := st; exact a.keep F.keep) (by simp; lia) (by simp only [List.size_toArray]; exact ⟨_, _, _, _, rfl, st, h _⟩)
theorem w_subS {value slice : PySem.Expr} {l : Addr} {vs : List Value} {k : Int} {u : Tok} {v : Value} {Q : Value → Locs → Led → Prop} (a : Std l vs Γ.h₀) (h0 : 0 ≤ k) (hhi : k < 2 ^ 63) (hx : vs[k.toNat]? = some v) (h : Q v ls led)
    (hs : subscripted slice false (.ref l) (.int k u) = operate [.ref l, .int k u] (getItem (.ref l) (.int k u)) := by with_unfolding_all rfl) :
    WP Γ gl cl ls led (subscriptTail value slice (.ref l) (.int k u)) Q := fun _ _ _ _ st => item_litK (by obtain ⟨m, ex, F, _⟩ := st; exact a.keep F.keep) h0 hhi hx ⟨_, _, _, _, rfl, st, h⟩ hs
/-- a call of a def with a contract -/
theorem w_fnS {s : Addr} {vs : List Value} {n : Nat} {f : Addr} {args : List Value} {fp rest : Led} {P : Value → Led → Prop} {Q : Value → Locs → Led → Prop} (C : FnS s vs n f args fp P) (S : Std s vs Γ.h₀) (hn : n ≤ Γ.room) (pk : Picks led fp rest)
    (k : ∀ v fp', P v fp' → Q v ls (fp' ++ rest)) : WP Γ gl cl ls led (call (.ref f) args) Q := fun ok h tk tl st => by
  have q : (led.flatten ++ tl).Perm (fp.flatten ++ (rest.flatten ++ tl)) := by
    rw [← List.append_assoc, ← List.flatten_append]; exact List.Perm.append_right _ pk.perm.flatten
  refine wpAny_call (codeAny_mono (C Γ gl cl ls S hn ok h tk _ (st.perm q)) ?_)
  rintro r s' ⟨v, h', tk', led', rfl, rfl, st', hp⟩
  exact ⟨h', tk', ls, led' ++ rest, rfl, st'.perm (by rw [List.flatten_append, List.append_assoc]), k _ _ hp⟩
theorem fn_introS {s0 : Addr} {vs0 : List Value} {n : Nat} {f : Addr} {args : List Value} {fp : Led} {P : Value → Led → Prop} {name qual : Str} {params : Arguments} {body body' : List Stmt} {scope : Scope} {dV kV doc pm cdv ct oc : Value} {an od : Option Addr} {osl : Array (Option Value)} {binds : List (Str × Value)}
    {gl' : List (Str × Value)} {ls0 : Locs}
    (ho : ∀ p, (hK p).lookup f = some ⟨oc, od, .func (fnOf name qual params body scope dV kV doc pm an cdv ct), osl⟩ := by kd_p) (hcd : ∀ p, codeIn (hK p) cdv qual = true := by kd_p) (hbd : body = body' := by (conv => lhs; whnf); try exact rfl)
    (hb : ∀ (s : Shared) p, (hK p).In s.heap → BindsTo s (fnOf name qual params body scope dV kV doc pm an cdv ct) ⟨args, []⟩ binds := by intro s9 p9 X9; first | exact BindsTo.of_eq rfl | exact binds_K X9 rfl (by k_dflt k_is) rfl rfl rfl) (hloc : ∀ y ∈ binds, scope.names.lookup y.1 = some .local := by exact locs rfl)
    (hcell : ∀ x ∈ scope.names, x.2 ≠ .cell := by decide) (hco : scope.isCoroutine = false := by exact rfl) (hgen : scope.isGenerator = false := by exact rfl) (hk : scope.kind = .function := by exact rfl)
    (hls : LsOk (fun y => binds.reverse.lookup y) scope.names ls0 := by kqd_all) (hgl : ∀ p, GlOk (hK p) scope.names gl' := by intro p9; kqd_in)
    (H : ∀ (Γ : Fm) (K : Flow → Locs → Led → Prop), n ≤ Γ.room + 1 → Γ.comp = none → (∀ v ls' led', Drop (P v) led' → K (.ret v) ls' led') → (∀ ls' led', Drop (P .none) led' → K .next ls' led') → Std s0 vs0 Γ.h₀ → WP Γ gl' [] ls0 fp (execs body' Γ.env) K) (hn : 1 ≤ n := by decide) : FnS s0 vs0 n f args fp P := by
  subst hbd
  intro Γ gl cl ls S hr ok h tk tl st
  obtain ⟨m, ex, F, N, nd, lc⟩ := st
  have hdp := ok.depth
  have hun := ok.units
  refine code_def ok.below F ok.kin N ok.top ok.frames ok.ffr ok.fkind (ho _) (hcd _) (by lia) (hb _ _ (ok.kin.keeps F.keep)) hloc ?_ hco hgen hk hcell
  intro g L' h₁ FG F' N' B' X' T'
  let Γ' : Fm := { Γ with A := Γ.A.deeper (envOf qual scope L' f cdv), env := envOf qual scope L' f cdv, fenv := envOf qual scope L' f cdv, outer := Γ.fenv :: Γ.outer, A₀ := Γ.A, h₀ := g, L := L', comp := none, room := Γ.room - 1 }
  have ok' : Γ'.Ok gl' [] := by
    refine ⟨B', X', T', ?_, rfl, hk, ok.hnd, ?_, ?_, hk, rfl, rfl, ?_, ?_, fun _ => ⟨rfl, rfl⟩⟩
    · show (Γ.A.frames.map _) = _; rw [ok.frames]; rfl
    · show Γ.A.depth + 1 + (Γ.room - 1) < recursionLimit; lia
    · show Γ.A.units + 3 + 10 * (Γ.room - 1 + 1) < cLine; lia
    · intro x v hx; exact (hgl _).all x v hx
    · intro x c hx; cases hx
  have st' : St Γ' h₁ ls0 fp (ex ++ tl) := by
    refine ⟨_, [], F', N', nd, fun x ov hx => ?_, rfl, fun x ov hx => ?_⟩
    · exact (hls.all x ov hx).2
    · exact (hls.all x ov hx).1
  refine wpAny_mono (H Γ' (fun fl _ led' => Drop (P (match fl with | .ret v => v | _ => .none)) led') (by show n ≤ Γ.room - 1 + 1; lia) rfl (fun _ _ _ h => h) (fun _ _ h => h) (S.keep FG.keep) ok' h₁ _ _ st') ?_ (fun _ _ x => x.elim)
  rintro fl s' ⟨h', tk', ls', led', rfl, st2, fp', rest, pk, hp⟩
  obtain ⟨m', ex', F2, N2, nd2, lk2, lc2⟩ := st2.dropF pk
  have hex : ex' = [] := lc2.1
  subst hex
  exact leaveK_ F2 N2 fun F3 N3 => ⟨_, h', tk', fp', rfl, rfl, ⟨m, ex, F3, N3, nd2, lc⟩, hp⟩
end

theorem lstN_el {p : Prop} {own : List Ent} {G : List Ent → Prop} (h : p ∧ own = []) (k : p → G []) : G own := h.2 ▸ k h.1
theorem rngN_el {a : Int} {i : Nat} {v : Value} {own : List Ent} {G : Value → List Ent → Prop} (h : (∃ t, v = .int (a + i) t) ∧ own = []) (k : ∀ t, G (.int (a + i) t) []) : G v own := by
  obtain ⟨⟨t, rfl⟩, rfl⟩ := h; exact k t
theorem dicN_el {es : Array DictEntry} {i : Nat} {v : Value} {own : List Ent} {G : Value → List Ent → Prop} (h : (∃ e, es[i]? = some e ∧ v = e.key) ∧ own = []) (k : ∀ e, es[i]? = some e → G e.key []) : G v own := by
  obtain ⟨⟨e, h1, rfl⟩, rfl⟩ := h; exact k e h1
theorem enu_el {i : Nat} {v : Value} {own : List Ent} {q : Value → Prop} {G : Value → List Ent → Prop} (h : ∃ a x t, q x ∧ v = .ref a ∧ own = [(a, tupO [.int i t, x])]) (k : ∀ a x t, q x → G (.ref a) [(a, tupO [.int i t, x])]) : G v own := by
  obtain ⟨a, x, t, h1, rfl, rfl⟩ := h; exact k a x t h1
theorem letG {G : Prop} (k : let g := G; g) : G := k
theorem rm {a b r : Nat} (h : b ≤ r + 1) (k : Nat.ble (a + 1) b = true) : a ≤ r := Nat.le_of_succ_le_succ (Nat.le_trans (Nat.le_of_ble_eq_true k) h)
theorem rmc {a b r c : Nat} (e : c = r) (h : b ≤ r + 1) (k : Nat.ble (a + 1) b = true) : a ≤ c := e ▸ rm h k
theorem bT {a b : Nat} (k : Nat.ble a b = true) : a ≤ b := Nat.le_of_ble_eq_true k
theorem bT' {a b : Nat} (k : Nat.ble (a + 1) b = true) : a < b := Nat.le_of_ble_eq_true k
theorem leT {x a b : Nat} (h : x ≤ a) (k : Nat.ble a b = true) : x ≤ b := Nat.le_trans h (Nat.le_of_ble_eq_true k)
theorem ltT {x a b : Nat} (h : x < a) (k : Nat.ble a b = true) : x < b := Nat.lt_of_lt_of_le h (Nat.le_of_ble_eq_true k)
theorem leET {x y a b : Nat} (e : x = y) (h : y ≤ a) (k : Nat.ble a b = true) : x ≤ b := e ▸ leT h k
theorem leET' {x y a b : Nat} (e : y = x) (h : y ≤ a) (k : Nat.ble a b = true) : x ≤ b := e ▸ leT h k
theorem iT {x a b : Int} (h : x ≤ a) (k : a ≤ b) : x ≤ b := Int.le_trans h k
theorem iT2 {x a b : Int} (h : a ≤ x) (k : b ≤ a) : b ≤ x := Int.le_trans k h
section
variable {Γ : Fm} {gl : List (Str × Value)} {cl : List (Str × Addr)} {ls : Locs} {led rest : Led} {n : Nat} {f : Addr} {args : List Value} {fp : Led} {Q : Value → Locs → Led → Prop}
theorem w_fn0_0 {R : Value} {L : Led} (C : Fn n f args fp fun r fp => r = R ∧ fp = L) (hn : n ≤ Γ.room) (pk : Picks led fp rest) (k : Q (R) ls (L ++ rest)) : WP Γ gl cl ls led (call (.ref f) args) Q :=
  w_fn C hn pk (by rintro v fp ⟨rfl, rfl⟩; exact k  )
theorem w_fn1_0 {A : Type} {R : A → Value} {L : A → Led} (C : Fn n f args fp fun r fp => ∃ a, r = R a ∧ fp = L a) (hn : n ≤ Γ.room) (pk : Picks led fp rest) (k : ∀ a, Q (R a) ls ((L a) ++ rest)) : WP Γ gl cl ls led (call (.ref f) args) Q :=
  w_fn C hn pk (by rintro v fp ⟨a, rfl, rfl⟩; exact k a )
theorem w_fn2_1 {A B : Type} {T0 : A → B → Prop} {R : A → B → Value} {L : A → B → Led} (C : Fn n f args fp fun r fp => ∃ a b, r = R a b ∧ T0 a b ∧ fp = L a b) (hn : n ≤ Γ.room) (pk : Picks led fp rest) (k : ∀ a b, T0 a b → Q (R a b) ls ((L a b) ++ rest)) : WP Γ gl cl ls led (call (.ref f) args) Q :=
  w_fn C hn pk (by rintro v fp ⟨a, b, rfl, h0, rfl⟩; exact k a b h0)
theorem w_fn2_2 {A B : Type} {T0 T1 : A → B → Prop} {R : A → B → Value} {L : A → B → Led} (C : Fn n f args fp fun r fp => ∃ a b, r = R a b ∧ T0 a b ∧ T1 a b ∧ fp = L a b) (hn : n ≤ Γ.room) (pk : Picks led fp rest) (k : ∀ a b, T0 a b → T1 a b → Q (R a b) ls ((L a b) ++ rest)) : WP Γ gl cl ls led (call (.ref f) args) Q :=
  w_fn C hn pk (by rintro v fp ⟨a, b, rfl, h0, h1, rfl⟩; exact k a b h0 h1)
theorem w_fn3_3 {A B C : Type} {T0 T1 T2 : A → B → C → Prop} {R : A → B → C → Value} {L : A → B → C → Led} (C : Fn n f args fp fun r fp => ∃ a b c, r = R a b c ∧ T0 a b c ∧ T1 a b c ∧ T2 a b c ∧ fp = L a b c) (hn : n ≤ Γ.room) (pk : Picks led fp rest) (k : ∀ a b c, T0 a b c → T1 a b c → T2 a b c → Q (R a b c) ls ((L a b c) ++ rest)) : WP Γ gl cl ls led (call (.ref f) args) Q :=
  w_fn C hn pk (by rintro v fp ⟨a, b, c, rfl, h0, h1, h2, rfl⟩; exact k a b c h0 h1 h2)
theorem w_fn4_1 {A B C D : Type} {T0 : A → B → C → D → Prop} {R : A → B → C → D → Value} {L : A → B → C → D → Led} (C : Fn n f args fp fun r fp => ∃ a b c d, r = R a b c d ∧ T0 a b c d ∧ fp = L a b c d) (hn : n ≤ Γ.room) (pk : Picks led fp rest) (k : ∀ a b c d, T0 a b c d → Q (R a b c d) ls ((L a b c d) ++ rest)) : WP Γ gl cl ls led (call (.ref f) args) Q :=
  w_fn C hn pk (by rintro v fp ⟨a, b, c, d, rfl, h0, rfl⟩; exact k a b c d h0)
theorem w_fn4_4 {A B C D : Type} {T0 T1 T2 T3 : A → B → C → D → Prop} {R : A → B → C → D → Value} {L : A → B → C → D → Led} (C : Fn n f args fp fun r fp => ∃ a b c d, r = R a b c d ∧ T0 a b c d ∧ T1 a b c d ∧ T2 a b c d ∧ T3 a b c d ∧ fp = L a b c d) (hn : n ≤ Γ.room) (pk : Picks led fp rest) (k : ∀ a b c d, T0 a b c d → T1 a b c d → T2 a b c d → T3 a b c d → Q (R a b c d) ls ((L a b c d) ++ rest)) : WP Γ gl cl ls led (call (.ref f) args) Q :=
  w_fn C hn pk (by rintro v fp ⟨a, b, c, d, rfl, h0, h1, h2, h3, rfl⟩; exact k a b c d h0 h1 h2 h3)
theorem w_fn8_1 {A B C D E F G H : Type} {T0 : A → B → C → D → E → F → G → H → Prop} {R : A → B → C → D → E → F → G → H → Value} {L : A → B → C → D → E → F → G → H → Led} (C : Fn n f args fp fun r fp => ∃ a b c d e f g h, r = R a b c d e f g h ∧ T0 a b c d e f g h ∧ fp = L a b c d e f g h) (hn : n ≤ Γ.room) (pk : Picks led fp rest) (k : ∀ a b c d e f g h, T0 a b c d e f g h → Q (R a b c d e f g h) ls ((L a b c d e f g h) ++ rest)) : WP Γ gl cl ls led (call (.ref f) args) Q :=
  w_fn C hn pk (by rintro v fp ⟨a, b, c, d, e, f, g, h, rfl, h0, rfl⟩; exact k a b c d e f g h h0)
theorem w_fnS2_1 {s0 : Addr} {vs0 : List Value} {A B : Type} {T0 : A → B → Prop} {R : A → B → Value} {L : A → B → Led} (C : FnS s0 vs0 n f args fp fun r fp => ∃ a b, r = R a b ∧ T0 a b ∧ fp = L a b) (S : Std s0 vs0 Γ.h₀) (hn : n ≤ Γ.room) (pk : Picks led fp rest) (k : ∀ a b, T0 a b → Q (R a b) ls ((L a b) ++ rest)) : WP Γ gl cl ls led (call (.ref f) args) Q :=
  w_fnS C S hn pk (by rintro v fp ⟨a, b, rfl, h0, rfl⟩; exact k a b h0)
end

theorem fill_all : (PySem.Challenge.rw_sq0038_01 = PySem.Challenge.rw_sq0038_01) ∧ (∀ P, hK P = hK P) := by
  k_fill
  exact ⟨rfl, fun _ => rfl⟩
local macro_rules | `(tactic| kdl_here) => `(tactic| first
  | with_reducible assumption
  | ((with_reducible refine bT ?_); exact rfl)
  | ((with_reducible refine bT' ?_); exact rfl)
  | ((with_reducible refine rm (by assumption) ?_); exact rfl)
  | ((with_reducible refine leT (by assumption) ?_); exact rfl)
  | ((with_reducible refine leET (by assumption) (by assumption) ?_); exact rfl)
  | ((with_reducible refine leET' (by assumption) (by assumption) ?_); exact rfl)
  | ((with_reducible refine ltT (by assumption) ?_); exact rfl)
  | with_reducible exact Int.natCast_nonneg _
  | with_reducible exact Nat.le_of_lt (by assumption)
  | with_reducible exact Int.le_of_lt (by assumption)
  | ((with_reducible refine rmc (by assumption) (by assumption) ?_); exact rfl)
  | ((with_reducible refine iT2 (by assumption) ?_); decide)
  | ((with_reducible refine iT (by assumption) ?_); decide)
  | decide
  | lia
  | omega
  | (simp only [List.length_append, List.length_cons, List.length_nil, List.length_map, List.length_take, List.length_drop, List.length_reverse]; lia))
local macro_rules | `(tactic| kcf_m) => `(tactic| first
  | assumption
  | exact At.head (List.Mem.head _)
  | exact At.head (List.Mem.tail _ (List.Mem.head _))
  | (refine At.head ?_; kcj_in)
  | (apply At.tail; kcf_m))
local macro_rules | `(tactic| kcj_in) => `(tactic| first | assumption | exact List.Mem.head _ | (apply List.Mem.tail; kcj_in))
local macro_rules | `(tactic| kcj_m) => `(tactic| first | exact Rep.head | (apply Rep.tail; kcj_m))
local macro_rules | `(tactic| kpc_turns) => `(tactic| first | exact Pick.head | (apply Pick.tail; kpc_turns))
local macro_rules | `(tactic| kpf_close) => `(tactic| first | exact Picks.nil | (apply Picks.cons; kpc_turns; kpf_close))
local macro_rules | `(tactic| kpt_turns) => `(tactic| first | exact Put.head | (refine' Put.tail ?pa ?pb; (case pa => decide); (case pb => kpt_turns)))
local macro_rules | `(tactic| kqd_all) => `(tactic| first | exact trivial | (refine And.intro ⟨rfl, rfl, by decide⟩ ?_; kqd_all))
local macro_rules | `(tactic| kqd_in) => `(tactic| first | exact trivial | (refine And.intro ⟨rfl, by decide, .inl (by k_dflt k_is)⟩ ?_; kqd_in) | (refine And.intro ⟨rfl, by decide, .inr ⟨by k_dflt k_is, by boot_fast, by decide⟩⟩ ?_; kqd_in))
local macro_rules | `(tactic| kd_p) => `(tactic| (intro p9; k_dflt k_is))
local macro_rules | `(tactic| kd_in) => `(tactic| (intro p9; first | exact ⟨by k_dflt k_is, by k_dflt k_is, by k_dflt k_is, rfl⟩ | exact ⟨by k_dflt k_is, by k_dflt k_is, by k_dflt k_is, by k_dflt k_is⟩ | exact ⟨by k_dflt k_is, by k_dflt k_is, by k_dflt k_is⟩))
local macro_rules | `(tactic| kd_p1) => `(tactic| first | with_reducible assumption | exact rfl)
local macro_rules | `(tactic| kst_p) => `(tactic| (intro p9; exact ⟨by k_dflt k_is, by k_dflt k_is, by k_dflt k_is, by k_dflt k_is, by rfl⟩))
abbrev bagO (x y z : Int) (tx ty tz n : Nat) : Obj := listOf [Value.int x tx, Value.int y ty, Value.int z tz].toArray n
inductive Bag (b : Addr) (zmax : Int) (c : List Ent) : Prop
  | mk (x y z : Int) (tx ty tz n : Nat) (e : c = [(b, bagO x y z tx ty tz n)]) (x0 : 0 ≤ x) (x1 : x < 10 ^ 90) (y0 : 0 ≤ y) (y1 : y < 2147483629) (z0 : 0 ≤ z) (z1 : z ≤ zmax) : Bag b zmax c

theorem Bag.mono {b : Addr} {z z' : Int} {c : List Ent} (h : Bag b z c) (k : z ≤ z') : Bag b z' c := by
  obtain ⟨x, y, w, tx, ty, tw, n, rfl, a1, a2, a3, a4, a5, a6⟩ := h
  exact ⟨x, y, w, tx, ty, tw, n, rfl, a1, a2, a3, a4, a5, Int.le_trans a6 k⟩
set_option maxHeartbeats 8000000 in
theorem draw_spec {b : Addr} {zm many : Int} {tm : Nat} {c : List Ent} (hb : Bag b zm c) (hz : zm < 1000) (hm : 0 < many) (hm2 : many < 100) :
    Fn 1 425 [.ref b, .int many tm] [c] fun r fp => ∃ d td c', r = .int d td ∧ 0 ≤ d ∧ d < many ∧ Bag b (zm + 1) c' ∧ fp = [c'] := by
  obtain ⟨x, y, z, tx, ty, tz, n, rfl, x0, x1, y0, y1, z0, z1⟩ := hb
  refine fn_intro (binds := [(Str.ofString "bag", .ref b), (Str.ofString "many", .int many tm)]) (gl' := [])
    (ls0 := [(Str.ofString "bag", some (.ref b)), (Str.ofString "many", some (.int many tm)), (Str.ofString "digit", none), (Str.ofString "mixed", none)]) (H := ?_)
  intro Γ K hr hc hK hN
  refine w_execs_cons <| w_If <| w_tCompare1 <| w_Subscript <| w_loc rfl <| w_int fun _ => w_subL (by kcf_m) (by decide) (by decide) (by exact rfl) ?_
  refine w_int fun _ => w_gt <| w_truthyB ?_
  refine ite_D (fun hx => ?_) (fun hx => ?_)
  · refine w_execs_cons <| w_Assign <| w_BinOp <| w_Subscript <| w_loc rfl <| w_int fun _ => w_subL (by kcf_m) (by decide) (by decide) (by exact rfl) ?_
    refine w_loc rfl <| w_mod (by kdl_here) fun _ => ?_
    refine w_store (by assumption) (by kpt_turns) ?_
    refine seq_next <| w_execs_cons <| w_AssignSub <| w_BinOp <| w_Subscript <| w_loc rfl <| w_int fun _ => w_subL (by kcf_m) (by decide) (by decide) (by exact rfl) ?_
    refine w_loc rfl <| w_div (by kdl_here) (by kdl_here) fun _ => ?_
    refine w_loc rfl <| w_int fun _ => w_setL (by kcj_m) (by decide) (by decide) (by exact Nat.le_of_ble_eq_true rfl) ?_
    try dsimp only [List.set, Int.reduceToNat]
    refine seq_next <| w_execs_cons <| w_Return <| w_loc rfl <| seq_ret <| seq_ret ?_
    refine hK _ _ _ <| done_ (by kpf_close) ⟨_, _, _, rfl, Int.fmod_nonneg_of_pos _ hm, Int.fmod_lt_of_pos _ hm, ⟨_, _, _, _, _, _, _, rfl, ?_, ?_, y0, y1, z0, by lia⟩, rfl⟩
    · exact Int.fdiv_nonneg (by kdl_here) (by kdl_here)
    · refine Int.lt_of_le_of_lt ?_ x1
      rw [Int.fdiv_eq_ediv_of_nonneg _ (by kdl_here)]
      exact Int.ediv_le_self _ (by kdl_here)
  · refine w_execs_nil <| seq_next <| w_execs_cons <| w_AssignSub <| w_BinOp <| w_Subscript <| w_loc rfl <| w_int fun _ => w_subL (by kcf_m) (by decide) (by decide) (by exact rfl) ?_
    refine w_int fun _ => w_add fun _ => w_loc rfl <| w_int fun _ => w_setL (by kcj_m) (by decide) (by decide) (by exact Nat.le_of_ble_eq_true rfl) ?_
    try dsimp only [List.set, Int.reduceToNat]
    refine seq_next <| w_execs_cons <| w_Assign <| w_BinOp <| w_BinOp <| w_BinOp <| w_BinOp <| w_Subscript <| w_loc rfl <| w_int fun _ => w_subL (by kcf_m) (by decide) (by decide) (by exact rfl) ?_
    refine w_BinOp <| w_int fun _ => w_Subscript <| w_loc rfl <| w_int fun _ => w_subL (by kcf_m) (by decide) (by decide) (by exact rfl) ?_
    refine w_mul (by first | exact .of_left (by decide) | exact .of_right (by decide)) fun _ => ?_
    refine w_add fun _ => w_int fun _ => w_add fun _ => w_int fun _ => w_pow (by decide) (by decide) (by lia) (by lia) fun _ => ?_
    refine w_int fun _ => w_mod (by kdl_here) fun _ => ?_
    refine w_store (by assumption) (by kpt_turns) ?_
    refine seq_next <| w_execs_cons <| w_Assign <| w_BinOp <| w_BinOp <| w_BinOp <| w_loc rfl <| w_BinOp <| w_int fun _ => w_Subscript <| w_loc rfl <| w_int fun _ => w_subL (by kcf_m) (by decide) (by decide) (by exact rfl) ?_
    refine w_mul (by first | exact .of_left (by decide) | exact .of_right (by decide)) fun _ => ?_
    refine w_add fun _ => w_int fun _ => ?_
    have f1 : 0 ≤ ((y + 40961 * (z + 1) + 577) ^ Int.toNat 5).fmod 2147483647 := Int.fmod_nonneg_of_pos _ (by decide)
    have f2 := Int.fmod_lt_of_pos ((y + 40961 * (z + 1) + 577) ^ Int.toNat 5) (show (0:Int) < 2147483647 by decide)
    generalize ((y + 40961 * (z + 1) + 577) ^ Int.toNat 5).fmod 2147483647 = M at *
    refine w_pow (by decide) (by decide) (by lia) (by lia) fun _ => ?_
    refine w_int fun _ => w_mod (by kdl_here) fun _ => ?_
    refine w_store (by assumption) (by kpt_turns) ?_
    refine seq_next <| w_execs_cons <| w_Return <| w_BinOp <| w_BinOp <| w_loc rfl <| w_int fun _ => w_div (by kdl_here) (by kdl_here) fun _ => ?_
    refine w_loc rfl <| w_mod (by kdl_here) fun _ => ?_
    refine seq_ret ?_
    exact hK _ _ _ <| done_ (by kpf_close) ⟨_, _, _, rfl, Int.fmod_nonneg_of_pos _ hm, Int.fmod_lt_of_pos _ hm, ⟨_, _, _, _, _, _, _, rfl, x0, x1, y0, y1, by lia, by lia⟩, rfl⟩


theorem is_whole_spec {v lo hi : Int} {a b c : Tok} : Fn 1 97 [.int v a, .int lo b, .int hi c] [] fun r fp => r = .bool (decide (lo ≤ v ∧ v ≤ hi)) ∧ fp = [] := by
  refine fn_intro (binds := [(Str.ofString "value", .int v a), (Str.ofString "low", .int lo b), (Str.ofString "high", .int hi c)]) (gl' := [(Str.ofString "isinstance", .builtin "isinstance"), (Str.ofString "int", .type "int"), (Str.ofString "bool", .type "bool")])
    (ls0 := [(Str.ofString "value", some (.int v a)), (Str.ofString "low", some (.int lo b)), (Str.ofString "high", some (.int hi c))]) (H := ?_)
  intro Γ K hr hc hK hN
  refine w_execs_cons <| w_Return <| w_And <| w_CallName <| w_glob rfl <| w_callB <| w_items_cons <| w_loc rfl <| w_items_cons <| w_glob rfl <| w_items_nil <| w_isIntInt <| w_truthyB <| ite_T <| w_And <| w_UnaryOp <| w_CallName <| w_glob rfl <| w_callB <| w_items_cons <| w_loc rfl <| w_items_cons <| w_glob rfl <| w_items_nil <| w_isIntBool <| w_not <| w_truthyB <| ite_nF <| w_BoolOne <| w_Compare2 <| w_loc rfl <| w_loc rfl <| w_le <| w_truthyB ?_
  refine ite_D (fun h1 => ?_) (fun h1 => ?_)
  · refine w_loc rfl <| w_le <| seq_ret ?_
    refine hK _ _ _ <| done_ (by kpf_close) ⟨?_, rfl⟩
    simp [h1]
  · refine seq_ret ?_
    refine hK _ _ _ <| done_ (by kpf_close) ⟨?_, rfl⟩
    simp [h1]
theorem bag_spec {i : Int} {t : Tok} (hi : 0 ≤ i) : Fn 1 418 [.int i t] [] fun r fp => ∃ b c, r = .ref b ∧ Bag b 0 c ∧ fp = [c] := by
  refine fn_intro (binds := [(Str.ofString "cell", .int i t)]) (gl' := [(Str.ofString "max", .builtin "max")])
    (ls0 := [(Str.ofString "cell", some (.int i t))]) (H := ?_)
  intro Γ K hr hc hK hN
  refine w_execs_cons <| w_Return <| w_List <| w_items_cons <| w_BinOp <| w_CallName <| w_glob rfl <| w_callB <| w_items_cons <| w_int fun _ => w_items_cons <| w_BinOp <| w_loc rfl <| w_BinOp <| w_int fun _ => w_int fun _ => w_pow (by decide) (by decide) (by lia) (by lia) fun _ => ?_
  refine w_sub fun _ => w_items_nil <| w_max fun _ => w_BinOp <| w_int fun _ => w_int fun _ => w_pow (by decide) (by decide) (by lia) (by lia) fun _ => ?_
  refine w_mod (by kdl_here) fun _ => ?_
  refine w_items_cons <| w_BinOp <| w_loc rfl <| w_int fun _ => w_mod (by kdl_here) fun _ => ?_
  refine w_items_cons <| w_int fun _ => w_items_nil <| w_newList (by kdl_here) fun _ => ?_
  refine seq_ret ?_
  refine hK _ _ _ <| done_ (by kpf_close) ⟨_, _, rfl, ⟨_, _, _, _, _, _, _, rfl, ?_, ?_, ?_, ?_, by decide, by decide⟩, rfl⟩
  · exact Int.fmod_nonneg_of_pos _ (by decide)
  · exact Int.fmod_lt_of_pos _ (by decide)
  · exact Int.fmod_nonneg_of_pos _ (by decide)
  · exact Int.fmod_lt_of_pos _ (by decide)


inductive W1I (L zm : Int) (f b k0 : Addr) (o1 o2 : Obj) (i : Nat) (ls : Locs) (led : Led) : Prop
  | mk (W : List (List Int)) (es : Array DictEntry) (ep : Nat) (xs : List (List Int × Addr × Value)) (ts cb : List Ent) (x1 x2 x3 : Option Value) (e1 : ls = [((Str.ofString "found"), some (.ref f)), ((Str.ofString "turn"), x1), ((Str.ofString "word"), x2), ((Str.ofString "size"), x3)]) (e2 : led = [[(f, dictO es ep)], ts, [(k0 + 1, o1)], [(k0, o2)], cb]) (hT : TDict es xs) (hX : WX xs ts W) (hG : GoodW L W) (hl : W.length ≤ 2 * i) (hB : Bag b (zm + 1 + 4 * i) cb) : W1I L zm f b k0 o1 o2 i ls led
theorem W1I.el {L zm : Int} {f b k0 : Addr} {o1 o2 : Obj} {i : Nat} {ls : Locs} {led : Led} {G : Locs → Led → Prop} (h9 : W1I L zm f b k0 o1 o2 i ls led) (k9 : ∀ (W : List (List Int)) (es : Array DictEntry) (ep : Nat) (xs : List (List Int × Addr × Value)) (ts cb : List Ent) (x1 x2 x3 : Option Value) (hT : TDict es xs) (hX : WX xs ts W) (hG : GoodW L W) (hl : W.length ≤ 2 * i) (hB : Bag b (zm + 1 + 4 * i) cb), G ([((Str.ofString "found"), some (.ref f)), ((Str.ofString "turn"), x1), ((Str.ofString "word"), x2), ((Str.ofString "size"), x3)]) ([[(f, dictO es ep)], ts, [(k0 + 1, o1)], [(k0, o2)], cb])) : G ls led := by
  obtain ⟨W, es, ep, xs, ts, cb, x1, x2, x3, rfl, rfl, hT, hX, hG, hl, hB⟩ := h9
  exact k9 W es ep xs ts cb x1 x2 x3 hT hX hG hl hB
inductive W2I (L zb : Int) (f b k0 : Addr) (o1 o2 : Obj) (es : Array DictEntry) (ep : Nat) (ts : List Ent) (j : Nat) (ys : List Value) (led : Led) : Prop
  | mk (ns : List Int) (cb' : List Ent) (e : led = [[(f, dictO es ep)], ts, [(k0 + 1, o1)], [(k0, o2)], cb']) (h1 : IntsAre ys ns) (h2 : ∀ x ∈ ns, 1 ≤ x ∧ x ≤ L) (h3 : ns.length = j) (h4 : j ≤ 3) (h5 : Bag b (zb + j) cb') : W2I L zb f b k0 o1 o2 es ep ts j ys led
theorem W2I.el {L zb : Int} {f b k0 : Addr} {o1 o2 : Obj} {es : Array DictEntry} {ep : Nat} {ts : List Ent} {j : Nat} {ys : List Value} {led : Led} {G : Led → Prop} (h9 : W2I L zb f b k0 o1 o2 es ep ts j ys led) (k9 : ∀ (ns : List Int) (cb' : List Ent) (h1 : IntsAre ys ns) (h2 : ∀ x ∈ ns, 1 ≤ x ∧ x ≤ L) (h3 : ns.length = j) (h4 : j ≤ 3) (h5 : Bag b (zb + j) cb'), G ([[(f, dictO es ep)], ts, [(k0 + 1, o1)], [(k0, o2)], cb'])) : G led := by
  obtain ⟨ns, cb', rfl, h1, h2, h3, h4, h5⟩ := h9
  exact k9 ns cb' h1 h2 h3 h4 h5
inductive W3I (L : Int) (f k0 : Addr) (o1 o2 : Obj) (wd : Addr) (ys : List Value) (ns : List Int) (cb' : List Ent) (i : Nat) (t : Tok) (j : Nat) (ls : Locs) (led : Led) : Prop
  | mk (W : List (List Int)) (es : Array DictEntry) (ep : Nat) (xs : List (List Int × Addr × Value)) (ts : List Ent) (y3 : Option Value) (e1 : ls = [((Str.ofString "found"), some (.ref f)), ((Str.ofString "turn"), some (.int (0 + (i : Int)) t)), ((Str.ofString "word"), some (.ref wd)), ((Str.ofString "size"), y3)]) (e2 : led = [[(f, dictO es ep)], ts, [(k0 + 1, o1)], [(k0, o2)], cb']) (hw : (wd, tupO ys) ∈ ts) (hT : TDict es xs) (hX : WX xs ts W) (hG : GoodW L W) (hl : W.length ≤ 2 * i + j) (hp : 1 ≤ j → ns.take 2 ∈ W) : W3I L f k0 o1 o2 wd ys ns cb' i t j ls led
theorem W3I.el {L : Int} {f k0 : Addr} {o1 o2 : Obj} {wd : Addr} {ys : List Value} {ns : List Int} {cb' : List Ent} {i : Nat} {t : Tok} {j : Nat} {ls : Locs} {led : Led} {G : Locs → Led → Prop} (h9 : W3I L f k0 o1 o2 wd ys ns cb' i t j ls led) (k9 : ∀ (W : List (List Int)) (es : Array DictEntry) (ep : Nat) (xs : List (List Int × Addr × Value)) (ts : List Ent) (y3 : Option Value) (hw : (wd, tupO ys) ∈ ts) (hT : TDict es xs) (hX : WX xs ts W) (hG : GoodW L W) (hl : W.length ≤ 2 * i + j) (hp : 1 ≤ j → ns.take 2 ∈ W), G ([((Str.ofString "found"), some (.ref f)), ((Str.ofString "turn"), some (.int (0 + (i : Int)) t)), ((Str.ofString "word"), some (.ref wd)), ((Str.ofString "size"), y3)]) ([[(f, dictO es ep)], ts, [(k0 + 1, o1)], [(k0, o2)], cb'])) : G ls led := by
  obtain ⟨W, es, ep, xs, ts, y3, rfl, rfl, hw, hT, hX, hG, hl, hp⟩ := h9
  exact k9 W es ep xs ts y3 hw hT hX hG hl hp
set_option maxHeartbeats 8000000 in
theorem words_spec {b : Addr} {zm L : Int} {tL : Nat} {c : List Ent} (hb : Bag b zm c) (hz : zm < 900) (hL : 0 < L) (hL2 : L < 100) :
    Fn 2 430 [.ref b, .int L tL] [c] fun r fp => ∃ d W cw c', r = .ref d ∧ GoodW L W ∧ W.length ≤ 10 ∧ Words d W cw ∧ Bag b (zm + 21) c' ∧ fp = [cw, c'] := by
  refine fn_introC (binds := [(Str.ofString "bag", .ref b), (Str.ofString "letters", .int L tL)]) (gl' := [(Str.ofString "range", .type "range"), (Str.ofString "tuple", .type "tuple"), (Str.ofString "len", .builtin "len"), (Str.ofString "_law_draw", .ref 425)])
    (ls0 := [(Str.ofString "found", none), (Str.ofString "turn", none), (Str.ofString "word", none), (Str.ofString "size", none)]) (H := ?_)
  intro Γ K k0 cells hr hc hK hN hcells _
  refine letG ?_; intro G9
  obtain ⟨o1, o2, rfl, ho1, ho2⟩ := hcells.two
  unfold G9; clear G9
  replace ho1 : o1.data = .cell (some (.int L tL)) := ho1
  replace ho2 : o2.data = .cell (some (.ref b)) := ho2
  clear hcells
  show WP Γ _ [(Str.ofString "letters", k0 + 1), (Str.ofString "bag", k0)] _ ([(k0 + 1, o1)] :: [(k0, o2)] :: [c]) _ _
  refine w_execs_cons <| w_Assign <| w_Dict0 fun _ _ => w_store (by assumption) (by kpt_turns) ?_
  refine seq_next <| w_execs_cons ?_
  rename_i f hf
  refine w_for4 ?_
  refine w_CallName <| w_glob rfl <| w_callT <| w_items_cons <| w_CallName <| w_glob rfl <| w_callK (by kd_p) ?_
  refine w_items_cons <| w_cell (by exact rfl) (by kcf_m) (by assumption) ?_
  refine w_items_cons <| w_int fun _ => w_items_nil ?_
  refine w_fn3_3 (draw_spec hb (by kdl_here) (by decide) (by decide)) (by kdl_here) (by kpf_close) ?_
  intro d td c1 hd0 hd1 hb1
  refine w_items_nil <| w_range1 fun _ _ _ => ?_
  rename_i rr ra rb
  refine ⟨d.toNat, _, fun _ => True, W1I L zm f b k0 o1 o2, _, IterOf.three (iter_range (.head (.head _)) (small_one (by decide) (by decide) (by kdl_here) (by kdl_here)) (by rw [rangeSize_one]; split <;> lia)) (by intro _ _; rfl), ?_, fun _ _ _ _ => trivial, ?_, ?_⟩
  · exact drop_ (l := [[(f, dictO #[] 0)], [(k0 + 1, o1)], [(k0, o2)], c1]) (l2 := [[(f, dictO #[] 0)], [], [(k0 + 1, o1)], [(k0, o2)], c1]) (by kpf_close) rfl ⟨[], #[], 0, [], [], c1, none, none, none, rfl, rfl, TDict.nil, WX.nil _, GoodW.nil _, Nat.zero_le _, by simpa using hb1⟩
  · rintro i v own ls led K1 hi hP9 hI9
    apply rngN_el hP9; intro t
    apply hI9.el; intro W es ep xs ts cb x1 x2 x3 hT hX hG hlen hB
    rintro hK1 _
    refine w_assignName <| w_store (by assumption) (by kpt_turns) ?_
    refine w_execs_cons <| w_Assign <| w_CallName <| w_glob rfl <| w_callT <| w_items_cons ?_
    refine w_ListComp hc (gl' := [(Str.ofString "_law_draw", .ref 425)]) (cl' := [(Str.ofString "letters", k0 + 1), (Str.ofString "bag", k0)]) (CompOk.of rfl rfl rfl rfl rfl rfl (by intro p9; kqd_in)) ?_ (by intro _; rfl)
    refine w_CallName <| w_glob rfl <| w_callT <| w_items_cons <| w_BinOp <| w_int fun _ => w_CallName <| w_glob rfl <| w_callK (by kd_p) ?_
    refine w_items_cons <| w_cell (by exact rfl) (by kcf_m) (by assumption) ?_
    refine w_items_cons <| w_int fun _ => w_items_nil ?_
    refine w_fn3_3 (draw_spec hB (by kdl_here) (by decide) (by decide)) (by kdl_here) (by kpf_close) ?_
    intro d2 td2 c2 hd20 hd21 hb2
    refine w_add fun _ => w_items_nil <| w_range1 fun _ _ _ => ?_
    refine ⟨(2 + d2).toNat, _, fun _ => True, W2I L (zm + 2 + 4 * i) f b k0 o1 o2 es ep ts,
      iter_range (.head (.head _)) (small_one (by decide) (by decide) (by kdl_here) (by kdl_here)) (by rw [rangeSize_one]; split <;> lia),
      drop_ (l := [[(f, dictO es ep)], ts, [(k0 + 1, o1)], [(k0, o2)], c2]) (by kpf_close) rfl ⟨[], c2, rfl, .nil, (by intro x h; cases h), rfl, by decide, hb2.mono (by simp; lia)⟩, ?_, ?_, ?_⟩
    · rintro j ys led hI9
      apply hI9.el; intro ns cb' hi3 hx3 hn3 hj3 hB3
      have := hi3.length
      exact ⟨trivial, by lia⟩
    · rintro Γc j v ys led K2 hrc ⟨mc, hcc⟩ hj ⟨t3, rfl⟩ hI9
      apply hI9.el; intro ns cb' hi3 hx3 hn3 hj3 hB3
      rintro hK2
      refine w_BinOp <| w_int fun _ => w_CallName <| w_glob rfl <| w_callK (by kd_p) ?_
      refine w_items_cons <| w_cell (by exact rfl) (by kcf_m) (by assumption) ?_
      refine w_items_cons <| w_cell (by exact rfl) (by kcf_m) (by assumption) ?_
      refine w_items_nil ?_
      refine w_fn3_3 (draw_spec hB3 (by kdl_here) hL hL2) (by kdl_here) (by kpf_close) ?_
      intro d4 td4 c4 h40 h41 hb4
      refine w_add fun _ => ?_
      refine hK2 _ _ _ <| drop_ (l := [[(f, dictO es ep)], ts, [(k0 + 1, o1)], [(k0, o2)], c4]) (by kpf_close) rfl ⟨ns ++ [1 + d4], c4, rfl, hi3.append (.cons _ _ .nil), fun x hx => ?_, by simp [hn3], by lia, hb4.mono (by push_cast; lia)⟩
      rcases List.mem_append.mp hx with hx | hx
      · exact hx3 x hx
      · rw [List.mem_singleton.mp hx]; lia
    · rintro D cnt ys led' hI9
      apply hI9.el; intro ns cb' hi3 hx3 hn3 hj3 hB3
      have hyl := hi3.length
      refine w_items_nil <| w_tupleL (by kcf_m) (by kdl_here) fun _ => ?_
      refine w_store (by assumption) (by kpt_turns) ?_
      refine seq_next <| w_execs_cons ?_
      refine w_for4 ?_
      refine w_CallName <| w_glob rfl <| w_callT <| w_items_cons <| w_int fun _ => w_items_cons <| w_BinOp <| w_CallName <| w_glob rfl <| w_callB <| w_items_cons <| w_loc rfl <| w_items_nil <| w_lenT (by kcf_m) (by kdl_here) fun _ => ?_
      refine w_int fun _ => w_add fun _ => w_items_nil <| w_range2 fun _ _ => ?_
      rename_i wd _ _ _ _ rg _
      refine ⟨ns.length - 1, _, fun _ => True, W3I L f k0 o1 o2 wd ys ns cb' i t, _,
        IterOf.three (iter_range (.head (.head _)) (small_one (by decide) (by decide) (by kdl_here) (by kdl_here)) (by rw [rangeSize_one]; split <;> lia)) (by intro _ _; rfl),
        drop_ (l := [[(f, dictO es ep)], [(wd, tupO ys)], ts, [(k0 + 1, o1)], [(k0, o2)], cb']) (l2 := [[(f, dictO es ep)], (wd, tupO ys) :: ts, [(k0 + 1, o1)], [(k0, o2)], cb']) (by kpf_close) rfl
          ⟨W, es, ep, xs, _, x3, rfl, rfl, .head _, hT, hX.mono fun x h => .tail _ h, hG, by lia, fun q => absurd q (by decide)⟩, fun _ _ _ _ => trivial, ?_, ?_⟩
      · rintro j v own ls led K3 hj hP9 hI9
        apply rngN_el hP9; intro t5
        apply hI9.el; intro W2 es2 ep2 xs2 ts2 y3 hwd hT2 hX2 hG2 hlen2 hp2
        rintro hK3 _
        have hmin : (if (2 + (j : Int)) < 0 then max (2 + (j : Int) + ys.length) 0 else min (2 + (j : Int)) ys.length) = ((j + 2 : Nat) : Int) := by
          rw [if_neg (by kdl_here)]; push_cast; lia
        have hi4 := hi3.take (j + 2)
        have hsz : es2.size = W2.length := hT2.size.trans hX2.len
        refine w_assignName <| w_store (by assumption) (by kpt_turns) ?_
        refine w_execs_cons <| w_If <| w_tCompare1 <| w_Subscript <| w_loc rfl <| w_Slice <| w_partNone <| w_partSome <| w_loc rfl <| w_partNone <| all_sl fun _ => ?_
        refine w_sliceT2 (by kcf_m) (by kcf_m) hmin (by kdl_here) ?_ (by with_unfolding_all rfl) (by intro _; with_unfolding_all rfl)
        intro a4 own4 ha4 _
        refine w_loc rfl ?_
        refine w_notinT (by kcf_m) hf hT2 (hX2.keys fun x h => by simp [h]) ha4 hi4 ?_
        rw [hX2.has]
        by_cases hin : ns.take (j + 2) ∈ W2
        · rw [decide_eq_true hin]
          refine w_truthyB <| ite_nT <| w_execs_nil <| seq_next <| w_execs_nil ?_
          refine hK3 _ _ _ trivial <| drop_ (l := [[(f, dictO es2 ep2)], ts2, [(k0 + 1, o1)], [(k0, o2)], cb']) (by kpf_close) rfl ⟨W2, es2, ep2, xs2, ts2, _, rfl, rfl, hwd, hT2, hX2, hG2, by lia, fun _ => ?_⟩
          rcases Nat.eq_zero_or_pos j with rfl | hj1
          · exact hin
          · exact hp2 hj1
        · rw [decide_eq_false hin]
          refine w_truthyB <| ite_nF <| w_execs_cons <| w_AssignSub <| w_BinOp <| w_int fun _ => w_CallName <| w_glob rfl <| w_callB <| w_items_cons <| w_loc rfl <| w_items_nil ?_
          refine w_lenD (by kcf_m) hf hsz (by kdl_here) ?_
          intro t6
          refine w_add fun _ => w_loc rfl <| w_Subscript <| w_loc rfl <| w_Slice <| w_partNone <| w_partSome <| w_loc rfl <| w_partNone <| all_sl fun _ => ?_
          refine w_sliceT2 (by kcf_m) (by kcf_m) hmin (by kdl_here) ?_ (by with_unfolding_all rfl) (by intro _; with_unfolding_all rfl)
          intro a5 own5 ha5 hm5
          refine w_setT (by kcf_m) hT2 (hX2.keys fun x h => by simp [h]) ha5 hi4 (by rw [hX2.len]; lia) ?_
          intro es6 ep6 hT6
          refine ⟨_, by kcj_m, ?_⟩
          refine seq_next <| w_execs_nil <| seq_next <| w_execs_nil ?_
          have hm6 : (a5, tupO (ys.take (j + 2))) ∈ own5 ++ ts2 := by
            rcases hm5 with h | ⟨rfl, h⟩
            · exact List.mem_append_left _ h
            · rw [h]; exact List.mem_append_right _ hwd
          refine hK3 _ _ _ trivial <| drop_ (l := [[(f, dictO es6 ep6)], own5, ts2, [(k0 + 1, o1)], [(k0, o2)], cb']) (l2 := [[(f, dictO es6 ep6)], own5 ++ ts2, [(k0 + 1, o1)], [(k0, o2)], cb']) (by kpf_close) (by simp)
            ⟨W2 ++ [ns.take (j + 2)], es6, ep6, _, own5 ++ ts2, _, rfl, rfl, List.mem_append_right _ hwd, hT6, (hX2.mono fun x h => List.mem_append_right _ h).add hin hm6 hi4, hG2.add ?_ ?_ ?_ hin, by simp; lia, fun _ => ?_⟩
          · rw [List.length_take]; lia
          · exact fun x hx => hx3 x (List.mem_of_mem_take hx)
          · intro e3
            rw [List.length_take] at e3
            rw [List.take_take]
            have : min 2 (j + 2) = 2 := by lia
            rw [this]
            exact hp2 (by kdl_here)
          · rcases Nat.eq_zero_or_pos j with rfl | hj1
            · exact List.mem_append_right _ (.head _)
            · exact List.mem_append_left _ (hp2 hj1)
      · rintro ls led hI9
        apply hI9.el; intro W2 es2 ep2 xs2 ts2 y3 hwd hT2 hX2 hG2 hlen2 hp2
        refine seq_next <| w_execs_nil ?_
        exact hK1 _ _ _ trivial <| done_ (l := [[(f, dictO es2 ep2)], ts2, [(k0 + 1, o1)], [(k0, o2)], cb']) (by kpf_close) ⟨W2, es2, ep2, xs2, ts2, cb', _, _, _, rfl, rfl, hT2, hX2, hG2, by lia, hB3.mono (by push_cast; lia)⟩
  · rintro ls led hI9
    apply hI9.el; intro W es ep xs ts cb x1 x2 x3 hT hX hG hlen hB
    refine seq_next <| w_execs_cons <| w_Return <| w_loc rfl <| seq_ret ?_
    exact hK _ _ _ <| drop_ (l := [[(f, dictO es ep)], ts, cb]) (l2 := [(f, dictO es ep) :: ts, cb]) (by kpf_close) rfl ⟨f, W, _, cb, rfl, hG, by lia, ⟨hf, es, ep, xs, ts, rfl, hT, hX⟩, hB.mono (by kdl_here), rfl⟩


abbrev Row3 := Int × Int × Int
def RowAt (ts : List Ent) (pvs : List Value) (j : Nat) (s : Int) (r : Row3) : Prop := ∃ ra t1 t2 t3 t4, pvs[j]? = some (.ref ra) ∧ (ra, tupO [.int s t1, .int r.1 t2, .int r.2.1 t3, .int r.2.2 t4]) ∈ ts
def RowsAt (ts : List Ent) (pvs : List Value) (p : Nat) (R : List Row3) : Prop := ∀ (k : Nat) (r : Row3), R[k]? = some r → RowAt ts pvs (p + k) (if k + 1 = R.length then 128 else 0) r
def CharAt (ts : List Ent) (pvs : List Value) (v : Value) (R : List Row3) : Prop := ∃ a v0 v1 v2 v3 s p t4 t5, v = .ref a ∧ (a, tupO [v0, v1, v2, v3, .int s t4, .int p t5]) ∈ ts ∧ ((R = [] ∧ s = 0) ∨ (R ≠ [] ∧ s = 1 ∧ ∃ pn : Nat, p = pn ∧ RowsAt ts pvs pn R))
inductive FontO (x dx dc tp kt : Addr) (pvs : List Value) (ts : List Ent) (fm : Int → Option (List Row3)) (c : List Ent) : Prop
  | mk (es : List DictEntry) (n : Nat) (fl : List (Str × Value)) (ces : Array DictEntry) (cep : Nat) (kvs : List (Int × Value)) (k1 k2 : Tok) (e : c = (x, instObj 259 dx) :: (dx, dictOf es n) :: (dc, dictO ces cep) :: (tp, tupO pvs) :: (kt, tupO [.int 7001 k1, .int (-3000) k2]) :: ts) (hdc : (dc == sysModules) = false) (hfl : FAre es fl)
    (f1 : fl.lookup (Str.ofString "chars") = some (.ref dc)) (f2 : fl.lookup (Str.ofString "program") = some (.ref tp)) (f3 : fl.lookup (Str.ofString "kerns") = some (.ref kt)) (f4 : ∃ t, fl.lookup (Str.ofString "boundary") = some (.int 256 t)) (f5 : ∃ t, fl.lookup (Str.ofString "edge_start") = some (.int (-1) t)) (f6 : fl.lookup (Str.ofString "has") = none) (f7 : fl.lookup (Str.ofString "starts") = none) (hI : IDict ces kvs) (hz : pvs.length ≤ 1000)
    (hm : ∀ code, match fm code with | none => valueAt kvs code = none | some R => ∃ v, valueAt kvs code = some v ∧ CharAt ts pvs v R) : FontO x dx dc tp kt pvs ts fm c
theorem has_spec {x dx dc tp kt : Addr} {pvs : List Value} {ts : List Ent} {fm : Int → Option (List Row3)} {c : List Ent} {code : Int} {t : Tok} (hF : FontO x dx dc tp kt pvs ts fm c) : Fn 1 193 [.ref x, .int code t] [c] fun r fp => r = .bool (fm code).isSome ∧ fp = [c] := by
  refine letG ?_; intro G9
  obtain ⟨es, n, fl, ces, cep, kvs, k1, k2, rfl, hdc, hfl, f1, f2, f3, f4, f5, f6, f7, hI, hz, hm⟩ := hF
  unfold G9; clear G9
  refine fn_intro (binds := [((Str.ofString "self"), .ref x), ((Str.ofString "code"), .int code t)]) (gl' := [])
    (ls0 := [((Str.ofString "self"), some (.ref x)), ((Str.ofString "code"), some (.int code t))]) (H := ?_)
  intro Γ K hr hc hK hN
  refine w_execs_cons <| w_Return <| w_Compare1 <| w_loc rfl <| w_Attr <| w_loc rfl <| w_getOwn (attr := none) (by kcf_m) (by kcf_m) (by assumption) (by kd_p1) (by exact rfl) (by kd_in) ?_
  refine w_inI (by kcf_m) hI hdc ?_
  refine hK _ _ _ <| done_ (by kpf_close) ⟨?_, rfl⟩
  have h := hm code
  cases e : fm code with
  | none => rw [e] at h; rw [h]; rfl
  | some R => rw [e] at h; obtain ⟨v, hv, _⟩ := h; rw [hv]; rfl
theorem starts_spec {x dx dc tp kt : Addr} {pvs : List Value} {ts : List Ent} {fm : Int → Option (List Row3)} {c : List Ent} {code : Int} {t : Tok} (hF : FontO x dx dc tp kt pvs ts fm c) (hn : code = 256 ∨ ∃ R, fm code = some R) :
    Fn 1 228 [.ref x, .int code t] [c] fun r fp => ∃ p u, r = .int p u ∧ (code = 256 → p = -1) ∧ (∀ R, code ≠ 256 → fm code = some R → ((R = [] ∧ p = -1) ∨ (R ≠ [] ∧ ∃ pn : Nat, p = pn ∧ RowsAt ts pvs pn R))) ∧ fp = [c] := by
  refine letG ?_; intro G9
  obtain ⟨es, n, fl, ces, cep, kvs, k1, k2, rfl, hdc, hfl, f1, f2, f3, f4, ⟨t5, f5⟩, f6, f7, hI, hz, hm⟩ := hF
  unfold G9; clear G9
  refine fn_intro (binds := [((Str.ofString "self"), .ref x), ((Str.ofString "code"), .int code t)]) (gl' := [((Str.ofString "EDGE"), .int 256 321), ((Str.ofString "NO_CHARACTER"), .ref 120), ((Str.ofString "PROGRAM_SORT"), .int 1 334)])
    (ls0 := [((Str.ofString "self"), some (.ref x)), ((Str.ofString "code"), some (.int code t)), ((Str.ofString "row"), none)]) (H := ?_)
  intro Γ K hr hc hK hN
  refine w_execs_cons <| w_If <| w_tCompare1 <| w_loc rfl <| w_glob rfl <| w_eq <| w_truthyB ?_
  refine ite_D (fun h1 => ?_) (fun h1 => ?_)
  · refine w_execs_cons <| w_Return <| w_Attr <| w_loc rfl <| w_getOwn (attr := none) (by kcf_m) (by kcf_m) (by assumption) (by kd_p1) (by exact rfl) (by kd_in) ?_
    refine seq_ret <| seq_ret ?_
    exact hK _ _ _ <| done_ (by kpf_close) ⟨_, _, rfl, fun _ => rfl, fun _ h => absurd h1 h, rfl⟩
  · obtain ⟨R, eR⟩ := hn.resolve_left h1
    have h := hm code
    rw [eR] at h
    refine letG ?_; intro G9
    obtain ⟨v, hv, a, v0, v1, v2, v3, s, p, t4, t6, rfl, ha, hR⟩ := h
    unfold G9; clear G9
    refine w_execs_nil <| seq_next <| w_execs_cons <| w_Assign <| w_CallAttr <| w_Attr <| w_loc rfl <| w_getOwn (attr := none) (by kcf_m) (by kcf_m) (by assumption) (by kd_p1) (by exact rfl) (by kd_in) ?_
    refine w_getM (by kcf_m) ?_
    refine w_callBm <| w_items_cons <| w_loc rfl <| w_items_cons <| w_glob rfl <| w_items_nil ?_
    refine w_getI (by kcf_m) hI hdc ?_
    rw [hv, Option.getD_some]
    refine w_store (by assumption) (by kpt_turns) ?_
    refine seq_next <| w_execs_cons <| w_Return <| w_IfExp <| w_tCompare1 <| w_Subscript <| w_loc rfl <| w_int fun _ => w_subT (by kcf_m) (by decide) (by decide) (by exact rfl) ?_
    refine w_glob rfl <| w_eq <| w_truthyB ?_
    rcases hR with ⟨rfl, rfl⟩ | ⟨hR, rfl, pn, rfl, hrows⟩
    · refine ite_D (fun h2 => absurd h2 (by decide)) (fun _ => ?_)
      refine w_UnaryOp <| w_int fun _ => w_neg fun _ => seq_ret ?_
      exact hK _ _ _ <| done_ (by kpf_close) ⟨_, _, rfl, fun _ => rfl, fun R' _ e => by rw [eR] at e; cases e; exact .inl ⟨rfl, rfl⟩, rfl⟩
    · refine ite_D (fun _ => ?_) (fun h2 => absurd rfl h2)
      refine w_Subscript <| w_loc rfl <| w_int fun _ => w_subT (by kcf_m) (by decide) (by decide) (by exact rfl) ?_
      refine seq_ret ?_
      exact hK _ _ _ <| done_ (by kpf_close) ⟨_, _, rfl, fun e => absurd e h1, fun R' _ e => by rw [eR] at e; cases e; exact .inr ⟨hR, pn, rfl, hrows⟩, rfl⟩


def kernW (i : Int) : Int := if i = 0 then 7001 else -3000
/-- what look answers -/
def LookR (o : Option Row3) (v : Value) (own : List Ent) : Prop := match o with
  | none => v = .none
  | some r => ∃ a t1 t2, v = .ref a ∧ own = [(a, tupO [.int (if r.2.1 = 0 then 1 else 0) t1, .int (if r.2.1 = 0 then r.2.2 else kernW r.2.2) t2])]
def RowOk (r : Row3) : Prop := r.1 ≠ 256 ∧ ((r.2.1 = 0) ∨ (r.2.1 = 128 ∧ (r.2.2 = 0 ∨ r.2.2 = 1)))
theorem find_take {R : List Row3} {right : Int} {i : Nat} {r : Row3} (h : ∀ q ∈ R.take i, q.1 ≠ right) (hr : R[i]? = some r) (e : r.1 = right) : (R.find? fun r => decide (r.1 = right)) = some r := by
  induction R generalizing i with
  | nil => cases i <;> cases hr
  | cons q R ih =>
    cases i with
    | zero => cases hr; rw [List.find?_cons]; simp [e]
    | succ i =>
      have hq : q.1 ≠ right := h q (.head _)
      rw [List.find?_cons]
      simp only [hq, decide_false]
      exact ih (fun x hx => h x (.tail _ hx)) (by simpa using hr)
theorem find_no {R : List Row3} {right : Int} (h : ∀ q ∈ R, q.1 ≠ right) : (R.find? fun r => decide (r.1 = right)) = none := by
  rw [List.find?_eq_none]
  intro q hq
  simp [h q hq]
inductive LInv (x tp : Addr) (left right : Int) (tl tr : Tok) (c : List Ent) (R : List Row3) (pn k : Nat) (ls : Locs) (led : Led) : Prop
  | mk (i : Nat) (g : Bool) (q : Int) (tq : Tok) (y1 y2 y3 y4 : Option Value) (e1 : ls = [((Str.ofString "font"), some (.ref x)), ((Str.ofString "left"), some (.int left tl)), ((Str.ofString "right"), some (.int right tr)), ((Str.ofString "place"), some (.int q tq)), ((Str.ofString "program"), some (.ref tp)), ((Str.ofString "going"), some (.bool g)), ((Str.ofString "skip"), y1), ((Str.ofString "following"), y2), ((Str.ofString "op"), y3), ((Str.ofString "rest"), y4)]) (e2 : led = [c])
    (hz : ∀ z ∈ R.take i, z.1 ≠ right) (h1 : g = true → q = pn + i ∧ i < R.length ∧ k = R.length - i) (h2 : g = false → R.length ≤ i) : LInv x tp left right tl tr c R pn k ls led
theorem LInv.el {x tp : Addr} {left right : Int} {tl tr : Tok} {c : List Ent} {R : List Row3} {pn k : Nat} {ls : Locs} {led : Led} {G : Locs → Led → Prop} (h9 : LInv x tp left right tl tr c R pn k ls led) (k9 : ∀ (i : Nat) (g : Bool) (q : Int) (tq : Tok) (y1 y2 y3 y4 : Option Value) (hz : ∀ z ∈ R.take i, z.1 ≠ right) (h1 : g = true → q = pn + i ∧ i < R.length ∧ k = R.length - i) (h2 : g = false → R.length ≤ i), G ([((Str.ofString "font"), some (.ref x)), ((Str.ofString "left"), some (.int left tl)), ((Str.ofString "right"), some (.int right tr)), ((Str.ofString "place"), some (.int q tq)), ((Str.ofString "program"), some (.ref tp)), ((Str.ofString "going"), some (.bool g)), ((Str.ofString "skip"), y1), ((Str.ofString "following"), y2), ((Str.ofString "op"), y3), ((Str.ofString "rest"), y4)]) ([c])) : G ls led := by
  obtain ⟨i, g, q, tq, y1, y2, y3, y4, rfl, rfl, hz, h1, h2⟩ := h9
  exact k9 i g q tq y1 y2 y3 y4 hz h1 h2
set_option maxHeartbeats 8000000 in
theorem look_spec {x dx dc tp kt : Addr} {pvs : List Value} {ts : List Ent} {fm : Int → Option (List Row3)} {c : List Ent} {left right : Int} {tl tr : Tok} {R : List Row3} (hF : FontO x dx dc tp kt pvs ts fm c) (hl : left ≠ 256) (hR : fm left = some R) (hok : ∀ r ∈ R, RowOk r) :
    Fn 2 348 [.ref x, .int left tl, .int right tr] [c] fun r fp => ∃ own, LookR (R.find? fun r => decide (r.1 = right)) r own ∧ fp = [own, c] := by
  have hF0 := hF
  refine letG ?_; intro G9
  obtain ⟨es, n, fl, ces, cep, kvs, k1, k2, rfl, hdc, hfl, f1, f2, f3, f4, ⟨t5, f5⟩, f6, f7, hI, hz, hm⟩ := hF
  unfold G9; clear G9
  refine fn_intro (binds := [((Str.ofString "font"), .ref x), ((Str.ofString "left"), .int left tl), ((Str.ofString "right"), .int right tr)]) (gl' := [((Str.ofString "EDGE"), .int 256 321), ((Str.ofString "STOP_SKIP"), .int 128 341), ((Str.ofString "KERN_OP"), .int 128 342), ((Str.ofString "KNOWN_OPS"), .ref 341)])
    (ls0 := [((Str.ofString "font"), some (.ref x)), ((Str.ofString "left"), some (.int left tl)), ((Str.ofString "right"), some (.int right tr)), ((Str.ofString "place"), none), ((Str.ofString "program"), none), ((Str.ofString "going"), none), ((Str.ofString "skip"), none), ((Str.ofString "following"), none), ((Str.ofString "op"), none), ((Str.ofString "rest"), none)]) (H := ?_)
  intro Γ K hr hc hK hN
  generalize ec : (x, instObj 259 dx) :: (dx, dictOf es n) :: (dc, dictO ces cep) :: (tp, tupO pvs) :: (kt, tupO [.int 7001 k1, .int (-3000) k2]) :: ts = c at *
  have m1 : (x, instObj 259 dx) ∈ c := by rw [← ec]; exact .head _
  have m2 : (dx, dictOf es n) ∈ c := by rw [← ec]; exact .tail _ (.head _)
  have m4 : (tp, tupO pvs) ∈ c := by rw [← ec]; exact .tail _ (.tail _ (.tail _ (.head _)))
  have m5 : (kt, tupO [.int 7001 k1, .int (-3000) k2]) ∈ c := by rw [← ec]; exact .tail _ (.tail _ (.tail _ (.tail _ (.head _))))
  have mt : ∀ y ∈ ts, y ∈ c := fun y hy => by rw [← ec]; exact .tail _ (.tail _ (.tail _ (.tail _ (.tail _ hy))))
  have none_ : (∀ q ∈ R, q.1 ≠ right) → ∀ ls', K (.ret .none) ls' [c] := fun h ls' => hK _ _ _ <| drop_ (l := [c]) (l2 := [[], c]) (by kpf_close) rfl ⟨[], by rw [find_no h]; rfl, rfl⟩
  refine w_execs_cons <| w_Assign <| w_CallAttr <| w_loc rfl <| w_getM2 (by kcf_m) (by kcf_m) (by assumption) (by kd_p1) (by kd_in) ?_
  refine w_callK (by kd_p) ?_
  refine w_items_cons <| w_loc rfl <| w_items_nil ?_
  refine w_fn2_2 (starts_spec hF0 (.inr ⟨R, hR⟩)) (by kdl_here) (by kpf_close) ?_
  intro p u _ hp
  have hp := hp R hl hR
  clear hF0 hm
  refine w_store (by assumption) (by kpt_turns) ?_
  refine seq_next <| w_execs_cons <| w_If <| w_tBoolOp <| w_allOr <| w_tCompare1 <| w_loc rfl <| w_int fun _ => w_lt <| w_truthyB ?_
  refine ite_D (fun h1 => ?_) (fun h1 => ?_)
  · refine ite_T <| w_execs_cons <| w_Return <| w_none <| seq_ret <| seq_ret ?_
    refine none_ ?_ _
    rcases hp with ⟨rfl, _⟩ | ⟨_, pn, rfl, _⟩
    · exact fun _ h => nomatch h
    · lia
  · refine letG ?_; intro G9
    obtain ⟨hne, pn, rfl, hrows⟩ := hp.resolve_left fun h => by lia
    unfold G9; clear G9
    refine w_allOr <| w_tCompare1 <| w_loc rfl <| w_glob rfl <| w_eq <| w_truthyB ?_
    refine ite_D (fun h2 => ?_) (fun h2 => ?_)
    · refine ite_T <| w_execs_cons <| w_Return <| w_none <| seq_ret <| seq_ret ?_
      exact none_ (fun q hq => by rw [h2]; exact (hok q hq).1) _
    · obtain ⟨r0, R', rfl⟩ : ∃ r0 R', R = r0 :: R' := by cases R with | nil => exact absurd rfl hne | cons a b => exact ⟨a, b, rfl⟩
      refine letG ?_; intro G9
      obtain ⟨ra, t1, t2, t3, t4, hra, hrm⟩ := hrows 0 r0 rfl
      unfold G9; clear G9
      have hrm := mt _ hrm
      have hlen := (List.getElem?_eq_some_iff.mp hra).1
      refine w_allOrNil <| ite_F <| w_execs_nil <| seq_next <| w_execs_cons <| w_Assign <| w_Attr <| w_loc rfl <| w_getOwn (attr := none) (by kcf_m) (by kcf_m) (by assumption) (by kd_p1) (by exact rfl) (by kd_in) ?_
      refine w_store (by assumption) (by kpt_turns) ?_
      refine seq_next <| w_execs_cons <| w_If <| w_tBoolOp <| w_allAnd <| w_tCompare1 <| w_loc rfl <| w_glob rfl <| w_ne <| w_truthyB ?_
      refine ite_N (fun h3 => ?_) (fun h3 => absurd h3 hl)
      refine w_allAnd <| w_tCompare1 <| w_Subscript <| w_Subscript <| w_loc rfl <| w_loc rfl ?_
      refine w_subT (by kcf_m) (by kdl_here) (by kdl_here) (by simpa using hra) ?_ (by with_unfolding_all rfl)
      refine w_int fun _ => w_subT (by kcf_m) (by decide) (by decide) (by exact rfl) ?_
      refine w_glob rfl <| w_gt <| w_truthyB ?_
      refine ite_D (fun h4 => absurd h4 (by split <;> lia)) (fun _ => ?_)
      refine ite_F <| w_execs_nil <| seq_next <| w_execs_cons <| w_Assign <| w_bool <| w_store (by assumption) (by kpt_turns) ?_
      refine seq_next <| w_execs_cons ?_
      refine w_while (LInv x tp left right tl tr c (r0 :: R') pn) ((r0 :: R').length) ⟨0, true, _, _, _, _, _, _, rfl, rfl, (fun z hz => nomatch hz), fun _ => ⟨by simp, by simp, rfl⟩, fun h => nomatch h⟩ ?_
      rintro k ls led hI9
      apply hI9.el; intro i g q tq y1 y2 y3 y4 hz2 hg1 hg2
      refine w_tValue <| w_loc rfl <| w_truthyB ?_
      cases g with
      | false =>
        refine ite_F <| seq_next <| w_execs_cons <| w_Return <| w_none <| seq_ret ?_
        exact none_ (fun z hz => hz2 z (by rw [List.take_of_length_le (hg2 rfl)]; exact hz)) _
      | true =>
        refine letG ?_; intro G9
        obtain ⟨rfl, hi, rfl⟩ := hg1 rfl
        unfold G9; clear G9
        obtain ⟨r, er⟩ : ∃ r, (r0 :: R')[i]? = some r := ⟨_, List.getElem?_eq_some_iff.mpr ⟨hi, rfl⟩⟩
        refine letG ?_; intro G9
        obtain ⟨ri, t1, t2, t3, t4, hri, hrm⟩ := hrows i r er
        unfold G9; clear G9
        have hrm := mt _ hrm
        have hlen := (List.getElem?_eq_some_iff.mp hri).1
        have hro := hok r (List.mem_of_getElem? er)
        refine ite_T <| w_execs_cons <| w_AssignUn (w_Subscript <| w_loc rfl <| w_loc rfl ?_) rfl
        refine w_subT (by kcf_m) (by kdl_here) (by kdl_here) (by rw [show ((pn : Int) + i).toNat = pn + i by lia]; exact hri) ?_ (by with_unfolding_all rfl)
        refine w_assignTup (by kcf_m) (by exact rfl) (by exact rfl) ?_
        refine w_inOrder_cons rfl <| w_assignName <| w_store (by assumption) (by kpt_turns) ?_
        refine w_inOrder_cons rfl <| w_assignName <| w_store (by assumption) (by kpt_turns) ?_
        refine w_inOrder_cons rfl <| w_assignName <| w_store (by assumption) (by kpt_turns) ?_
        refine w_inOrder_cons rfl <| w_assignName <| w_store (by assumption) (by kpt_turns) ?_
        refine w_inOrder_nil <| seq_next <| w_execs_cons <| w_If <| w_tBoolOp <| w_allAnd <| w_tCompare1 <| w_loc rfl <| w_loc rfl <| w_eq <| w_truthyB ?_
        refine ite_D (fun h5 => ?_) (fun h5 => ?_)
        · refine w_allAnd <| w_tCompare1 <| w_loc rfl <| w_glob rfl <| w_le <| w_truthyB ?_
          refine ite_D (fun _ => ?_) (fun h6 => absurd h6 (by split <;> lia))
          have hfin := find_take hz2 er h5
          refine letG ?_; intro G9
          obtain ⟨r1, r2, r3⟩ := r
          unfold G9; clear G9
          obtain ⟨_, hop⟩ := hro
          dsimp only at hop h5 hrm ⊢
          refine w_allAndNil <| ite_T <| w_execs_cons <| w_If <| w_tCompare1 <| w_loc rfl <| w_glob rfl <| w_ge <| w_truthyB ?_
          rcases hop with rfl | ⟨rfl, hop⟩
          · refine ite_D (fun h7 => absurd h7 (by decide)) (fun _ => ?_)
            refine w_execs_nil <| seq_next <| w_execs_cons <| w_Return <| w_Tuple <| w_items_cons <| w_BinOp <| w_IfExp <| w_tCompare1 <| w_loc rfl <| w_glob rfl ?_
            refine w_inTK (ns := [0, 1, 2, 3, 5, 6, 7, 11]) (b := true) (by kd_p) (by repeat constructor) (by decide +kernel) ?_
            refine w_truthyB <| ite_T <| w_loc rfl <| w_int fun _ => w_add fun _ => w_items_cons <| w_loc rfl <| w_items_nil <| w_newTuple (by kdl_here) fun _ => ?_
            refine seq_ret <| seq_ret <| seq_ret ?_
            exact hK _ _ _ <| done_ (by kpf_close) ⟨_, by rw [hfin]; exact ⟨_, _, _, rfl, rfl⟩, rfl⟩
          · refine ite_D (fun _ => ?_) (fun h7 => absurd (by decide) h7)
            rcases hop with rfl | rfl
            · refine w_execs_cons <| w_Return <| w_Tuple <| w_items_cons <| w_int fun _ => w_items_cons <| w_Subscript <| w_Attr <| w_loc rfl <| w_getOwn (attr := none) (by kcf_m) (by kcf_m) (by assumption) (by kd_p1) (by exact rfl) (by kd_in) ?_
              refine w_BinOp <| w_BinOp <| w_int fun _ => w_BinOp <| w_loc rfl <| w_glob rfl <| w_sub fun _ => w_mul (by first | exact .of_left (by decide) | exact .of_right (by decide)) fun _ => ?_
              refine w_loc rfl <| w_add fun _ => w_subT (by kcf_m) (by decide) (by decide) (by exact rfl) ?_
              refine w_items_nil <| w_newTuple (by kdl_here) fun _ => ?_
              refine seq_ret <| seq_ret <| seq_ret <| seq_ret ?_
              exact hK _ _ _ <| done_ (by kpf_close) ⟨_, by rw [hfin]; exact ⟨_, _, _, rfl, rfl⟩, rfl⟩
            · refine w_execs_cons <| w_Return <| w_Tuple <| w_items_cons <| w_int fun _ => w_items_cons <| w_Subscript <| w_Attr <| w_loc rfl <| w_getOwn (attr := none) (by kcf_m) (by kcf_m) (by assumption) (by kd_p1) (by exact rfl) (by kd_in) ?_
              refine w_BinOp <| w_BinOp <| w_int fun _ => w_BinOp <| w_loc rfl <| w_glob rfl <| w_sub fun _ => w_mul (by first | exact .of_left (by decide) | exact .of_right (by decide)) fun _ => ?_
              refine w_loc rfl <| w_add fun _ => w_subT (by kcf_m) (by decide) (by decide) (by exact rfl) ?_
              refine w_items_nil <| w_newTuple (by kdl_here) fun _ => ?_
              refine seq_ret <| seq_ret <| seq_ret <| seq_ret ?_
              exact hK _ _ _ <| done_ (by kpf_close) ⟨_, by rw [hfin]; exact ⟨_, _, _, rfl, rfl⟩, rfl⟩
        · refine ite_F <| w_execs_nil <| seq_next <| w_execs_cons <| w_Assign <| w_Compare1 <| w_loc rfl <| w_glob rfl <| w_lt <| w_store (by assumption) (by kpt_turns) ?_
          refine seq_next <| w_execs_cons <| w_Assign <| w_BinOp <| w_BinOp <| w_loc rfl <| w_loc rfl <| w_add fun _ => w_int fun _ => w_add fun _ => w_store (by assumption) (by kpt_turns) ?_
          refine seq_next <| w_execs_nil ?_
          have hz3 : ∀ z ∈ (r0 :: R').take (i + 1), z.1 ≠ right := fun z hz => by
            rw [List.take_succ, er] at hz
            rcases List.mem_append.mp hz with hz | hz
            · exact hz2 z hz
            · rw [show z = r by simpa using hz]; exact h5
          refine ⟨(r0 :: R').length - (i + 1), by lia, i + 1, _, _, _, _, _, _, _, rfl, rfl, hz3, fun h => ?_, fun h => ?_⟩
          · have h := of_decide_eq_true h
            by_cases e : i + 1 = (r0 :: R').length
            · rw [if_pos e] at h; lia
            · rw [if_neg e]; exact ⟨by push_cast; lia, by lia, rfl⟩
          · have h := of_decide_eq_false h
            by_cases e : i + 1 = (r0 :: R').length
            · lia
            · rw [if_neg e] at h; lia


theorem check_code_spec {i : Int} {t : Tok} (h0 : 0 ≤ i) (h1 : i ≤ 255) : Fn 2 278 [.int i t] [] fun r fp => r = .int i t ∧ fp = [] := by
  refine fn_intro (binds := [((Str.ofString "code"), .int i t)]) (gl' := [((Str.ofString "is_whole"), .ref 97)])
    (ls0 := [((Str.ofString "code"), some (.int i t))]) (H := ?_)
  intro Γ K hr hc hK hN
  refine w_execs_cons <| w_If <| w_tNot <| w_tValue <| w_CallName <| w_glob rfl <| w_callK (by kd_p) ?_
  refine w_items_cons <| w_loc rfl <| w_items_cons <| w_int fun _ => w_items_cons <| w_int fun _ => w_items_nil ?_
  refine w_fn0_0 is_whole_spec (by kdl_here) (by kpf_close) ?_
  rw [show decide (0 ≤ i ∧ i ≤ 255) = true from decide_eq_true ⟨h0, h1⟩]
  refine w_truthyB <| ite_nT <| w_execs_nil <| seq_next <| w_execs_cons <| w_Return <| w_loc rfl <| seq_ret ?_
  exact hK _ _ _ <| done_ (by kpf_close) ⟨rfl, rfl⟩
/-- what a list's node says -/
inductive Node where
  | chr (c : Int)
  | lig (c : Int) (ps : List Int)
  | krn (w : Int)
inductive NodeC (v : Value) (nd : Node) (own : List Ent) : Prop
  | mk (x dx : Addr) (es : List DictEntry) (n : Nat) (fl : List (Str × Value)) (rest : List Ent) (e : v = .ref x) (hf : FAre es fl) (hk : fl.lookup (Str.ofString "kind") = none) (hm : match nd with
    | .chr c => own = (x, instObj 295 dx) :: (dx, dictOf es n) :: rest ∧ ∃ t, fl.lookup (Str.ofString "code") = some (.int c t)
    | .lig c ps => own = (x, instObj 315 dx) :: (dx, dictOf es n) :: rest ∧ (∃ t, fl.lookup (Str.ofString "code") = some (.int c t)) ∧ (∃ a vs, fl.lookup (Str.ofString "parts") = some (.ref a) ∧ (a, tupO vs) ∈ rest ∧ IntsAre vs ps) ∧ fl.lookup (Str.ofString "left") = some (.bool false) ∧ fl.lookup (Str.ofString "right") = some (.bool false)
    | .krn w => own = (x, instObj 336 dx) :: (dx, dictOf es n) :: rest ∧ (∃ t, fl.lookup (Str.ofString "width") = some (.int w t)) ∧ (∃ t, fl.lookup (Str.ofString "sort") = some (.int 0 t))) : NodeC v nd own
theorem char_spec {x dx f : Addr} {i : Int} {t : Tok} (h0 : 0 ≤ i) (h1 : i ≤ 255) : Fn 3 292 [.ref x, .ref f, .int i t] [[(x, instObj 295 dx)], [(dx, dictOf [] 0)]] fun r fp => r = .none ∧ ∃ own, NodeC (.ref x) (.chr i) own ∧ fp = [own] := by
  refine fn_intro (binds := [((Str.ofString "self"), .ref x), ((Str.ofString "font"), .ref f), ((Str.ofString "code"), .int i t)]) (gl' := [((Str.ofString "check_code"), .ref 278)])
    (ls0 := [((Str.ofString "self"), some (.ref x)), ((Str.ofString "font"), some (.ref f)), ((Str.ofString "code"), some (.int i t))]) (H := ?_)
  intro Γ K hr hc hK hN
  have hf0 : FAre [] [] := .nil
  refine w_execs_cons <| w_AssignAttr <| w_loc rfl <| w_loc rfl <| w_setOwn (by kcf_m) (by kcf_m) (by assumption) (by kdl_here) (by kd_in) fun _ _ _ => ⟨_, by kcj_m, ?_⟩
  refine seq_next <| w_execs_cons <| w_AssignAttr <| w_CallName <| w_glob rfl <| w_callK (by kd_p) ?_
  refine w_items_cons <| w_loc rfl <| w_items_nil ?_
  refine w_fn0_0 (check_code_spec h0 h1) (by kdl_here) (by kpf_close) ?_
  refine w_loc rfl <| w_setOwn (by kcf_m) (by kcf_m) (by assumption) (by kdl_here) (by kd_in) fun _ _ _ => ⟨_, by kcj_m, ?_⟩
  refine seq_next <| w_execs_nil ?_
  rename_i hf1
  exact hN _ _ <| drop_ (l := [[(x, instObj 295 dx)], [(dx, _)]]) (l2 := [(x, instObj 295 dx) :: (dx, _) :: []]) (by kpf_close) rfl ⟨rfl, _, ⟨_, _, _, _, _, _, rfl, hf1, rfl, ⟨rfl, _, rfl⟩⟩, rfl⟩
theorem ints_all {vs : List Value} {ns : List Int} (h : IntsAre vs ns) {j : Nat} {v : Value} (e : vs[j]? = some v) : ∃ i t, v = .int i t ∧ ns[j]? = some i := by
  induction h generalizing j with
  | nil => cases e
  | cons n t _ ih =>
    cases j with
    | zero => cases e; exact ⟨_, _, rfl, rfl⟩
    | succ j => exact ih (by simpa using e)
set_option maxHeartbeats 8000000 in
theorem lig_spec {x dx f p : Addr} {i : Int} {t : Tok} {vs : List Value} {ns : List Int} {c : List Ent} (hp : (p, tupO vs) ∈ c) (h0 : 0 ≤ i) (h1 : i ≤ 255) (hv : IntsAre vs ns) (hns : ∀ n ∈ ns, 0 ≤ n ∧ n ≤ 255) (hz : vs.length ≤ 900) :
    Fn 3 312 [.ref x, .ref f, .int i t, .ref p, .bool false, .bool false] [[(x, instObj 315 dx)], [(dx, dictOf [] 0)], c] fun r fp => r = .none ∧ ∃ own, NodeC (.ref x) (.lig i ns) own ∧ fp = [own, c] := by
  refine fn_intro (binds := [((Str.ofString "self"), .ref x), ((Str.ofString "font"), .ref f), ((Str.ofString "code"), .int i t), ((Str.ofString "parts"), .ref p), ((Str.ofString "left"), .bool false), ((Str.ofString "right"), .bool false)]) (gl' := [((Str.ofString "check_code"), .ref 278), ((Str.ofString "tuple"), .type "tuple")])
    (ls0 := [((Str.ofString "self"), some (.ref x)), ((Str.ofString "font"), some (.ref f)), ((Str.ofString "code"), some (.int i t)), ((Str.ofString "parts"), some (.ref p)), ((Str.ofString "left"), some (.bool false)), ((Str.ofString "right"), some (.bool false))]) (H := ?_)
  intro Γ K hr hc hK hN
  have hf0 : FAre [] [] := .nil
  refine w_execs_cons <| w_AssignAttr <| w_loc rfl <| w_loc rfl <| w_setOwn (by kcf_m) (by kcf_m) (by assumption) (by kdl_here) (by kd_in) fun _ _ _ => ⟨_, by kcj_m, ?_⟩
  refine seq_next <| w_execs_cons <| w_AssignAttr <| w_CallName <| w_glob rfl <| w_callK (by kd_p) ?_
  refine w_items_cons <| w_loc rfl <| w_items_nil ?_
  refine w_fn0_0 (check_code_spec h0 h1) (by kdl_here) (by kpf_close) ?_
  refine w_loc rfl <| w_setOwn (by kcf_m) (by kcf_m) (by assumption) (by kdl_here) (by kd_in) fun _ _ _ => ⟨_, by kcj_m, ?_⟩
  refine seq_next <| w_execs_cons <| w_AssignAttr <| w_CallName <| w_glob rfl <| w_callT <| w_items_cons ?_
  rename_i hf2
  refine w_ListComp hc (gl' := [((Str.ofString "check_code"), .ref 278)]) (cl' := []) (CompOk.of rfl rfl rfl rfl rfl rfl (by intro p9; kqd_in)) ?_ (by intro _; rfl)
  refine w_loc rfl ?_
  refine ⟨vs.length, _, _, fun j ys led => ys = vs.take j ∧ led = [[(x, instObj 315 dx)], [(dx, dictOf _ _)], c], iter_tup (by kcf_m), drop_ (l := [[(x, instObj 315 dx)], [(dx, dictOf _ _)], c]) (by kpf_close) rfl ⟨rfl, rfl⟩, ?_, ?_, ?_⟩
  · rintro j ys led ⟨rfl, rfl⟩
    exact ⟨by kcf_m, by rw [List.length_take]; lia⟩
  · rintro Γc j v ys led K2 hrc ⟨mc, hcc⟩ hj hv2 ⟨rfl, rfl⟩ hK2
    refine letG ?_; intro G9
    obtain ⟨q, tq, rfl, hq⟩ := ints_all hv hv2
    unfold G9; clear G9
    have hq := hns q (List.mem_of_getElem? hq)
    refine w_CallName <| w_glob rfl <| w_callK (by kd_p) ?_
    refine w_items_cons <| w_loc rfl <| w_items_nil ?_
    refine w_fn0_0 (check_code_spec hq.1 hq.2) (by kdl_here) (by kpf_close) ?_
    refine hK2 _ _ _ <| drop_ (l := [[(x, instObj 315 dx)], [(dx, dictOf _ _)], c]) (by kpf_close) rfl ⟨?_, rfl⟩
    rw [List.take_add_one, hv2]; rfl
  · rintro D cnt ys led' ⟨rfl, rfl⟩
    rw [List.take_length]
    refine w_items_nil <| w_tupleL (by kcf_m) (by kdl_here) fun _ => ?_
    refine w_loc rfl <| w_setOwn (by kcf_m) (by kcf_m) (by assumption) (by kdl_here) (by kd_in) fun _ _ _ => ⟨_, by kcj_m, ?_⟩
    refine seq_next <| w_execs_cons <| w_AssignAttr <| w_loc rfl <| w_loc rfl <| w_setOwn (by kcf_m) (by kcf_m) (by assumption) (by kdl_here) (by kd_in) fun _ _ _ => ⟨_, by kcj_m, ?_⟩
    refine seq_next <| w_execs_cons <| w_AssignAttr <| w_loc rfl <| w_loc rfl <| w_setOwn (by kcf_m) (by kcf_m) (by assumption) (by kdl_here) (by kd_in) fun _ _ _ => ⟨_, by kcj_m, ?_⟩
    refine seq_next <| w_execs_nil ?_
    rename_i tu es5 n5 hf5 es6 n6 hf6 es7 n7 hf7
    exact hN _ _ <| drop_ (l := [[(x, instObj 315 dx)], [(dx, dictOf es7 n7)], [(tu, tupO vs)], c]) (l2 := [(x, instObj 315 dx) :: (dx, dictOf es7 n7) :: [(tu, tupO vs)], c]) (by kpf_close) rfl ⟨rfl, _, ⟨_, _, _, _, _, _, rfl, hf7, rfl, ⟨rfl, ⟨_, rfl⟩, ⟨_, _, rfl, .head _, hv⟩, rfl, rfl⟩⟩, rfl⟩
theorem check_whole_spec {i : Int} {t : Tok} : Fn 1 104 [.int i t] [] fun r fp => r = .int i t ∧ fp = [] := by
  refine fn_intro (binds := [((Str.ofString "value"), .int i t)]) (gl' := [((Str.ofString "isinstance"), .builtin "isinstance"), ((Str.ofString "int"), .type "int"), ((Str.ofString "bool"), .type "bool")])
    (ls0 := [((Str.ofString "value"), some (.int i t))]) (H := ?_)
  intro Γ K hr hc hK hN
  refine w_execs_cons <| w_If <| w_tBoolOp <| w_allOr <| w_tNot <| w_tValue <| w_CallName <| w_glob rfl <| w_callB <| w_items_cons <| w_loc rfl <| w_items_cons <| w_glob rfl <| w_items_nil <| w_isIntInt <| w_truthyB <| ite_nT <| w_allOr <| w_tValue <| w_CallName <| w_glob rfl <| w_callB <| w_items_cons <| w_loc rfl <| w_items_cons <| w_glob rfl <| w_items_nil <| w_isIntBool <| w_truthyB <| ite_F <| w_allOrNil <| ite_F <| w_execs_nil <| seq_next <| w_execs_cons <| w_Return <| w_loc rfl <| seq_ret ?_
  exact hK _ _ _ <| done_ (by kpf_close) ⟨rfl, rfl⟩
theorem check_dimen_spec {i : Int} {t : Tok} (h0 : -1073741823 ≤ i) (h1 : i ≤ 1073741823) : Fn 2 111 [.int i t] [] fun r fp => r = .int i t ∧ fp = [] := by
  refine fn_intro (binds := [((Str.ofString "value"), .int i t)]) (gl' := [((Str.ofString "MAX_DIMEN"), .int 1073741823 294), ((Str.ofString "check_whole"), .ref 104)])
    (ls0 := [((Str.ofString "value"), some (.int i t))]) (H := ?_)
  intro Γ K hr hc hK hN
  refine w_execs_cons <| w_If <| w_tNot <| w_tCompare2 <| w_UnaryOp <| w_glob rfl <| w_neg fun _ => w_CallName <| w_glob rfl <| w_callK (by kd_p) ?_
  refine w_items_cons <| w_loc rfl <| w_items_nil ?_
  refine w_fn0_0 check_whole_spec (by kdl_here) (by kpf_close) ?_
  refine w_le <| w_truthyB ?_
  refine ite_D (fun _ => ?_) (fun h => absurd h0 h)
  refine w_glob rfl <| w_le <| w_truthyB ?_
  refine ite_N (fun h => absurd h1 h) (fun _ => ?_)
  refine w_execs_nil <| seq_next <| w_execs_cons <| w_Return <| w_loc rfl <| seq_ret ?_
  exact hK _ _ _ <| done_ (by kpf_close) ⟨rfl, rfl⟩
set_option maxHeartbeats 8000000 in
theorem kern_spec {x dx : Addr} {i : Int} {t u : Tok} (h0 : i = 7001 ∨ i = -3000) : Fn 5 333 [.ref x, .int i t, .int 0 u] [[(x, instObj 336 dx)], [(dx, dictOf [] 0)]] fun r fp => r = .none ∧ ∃ own, NodeC (.ref x) (.krn i) own ∧ fp = [own] := by
  refine fn_intro (binds := [((Str.ofString "self"), .ref x), ((Str.ofString "width"), .int i t), ((Str.ofString "sort"), .int 0 u)]) (gl' := [((Str.ofString "is_whole"), .ref 97), ((Str.ofString "FONT_KERN"), .int 0 580), ((Str.ofString "MU_KERN"), .int 3 583), ((Str.ofString "check_dimen"), .ref 111)])
    (ls0 := [((Str.ofString "self"), some (.ref x)), ((Str.ofString "width"), some (.int i t)), ((Str.ofString "sort"), some (.int 0 u))]) (H := ?_)
  intro Γ K hr hc hK hN
  have hf0 : FAre [] [] := .nil
  refine w_execs_cons <| w_If <| w_tNot <| w_tValue <| w_CallName <| w_glob rfl <| w_callK (by kd_p) ?_
  refine w_items_cons <| w_loc rfl <| w_items_cons <| w_glob rfl <| w_items_cons <| w_glob rfl <| w_items_nil ?_
  refine w_fn0_0 is_whole_spec (by kdl_here) (by kpf_close) ?_
  rw [show decide ((0 : Int) ≤ 0 ∧ (0 : Int) ≤ 3) = true from by decide]
  refine w_truthyB <| ite_nT <| w_execs_nil <| seq_next <| w_execs_cons <| w_AssignAttr <| w_CallName <| w_glob rfl <| w_callK (by kd_p) ?_
  refine w_items_cons <| w_loc rfl <| w_items_nil ?_
  refine w_fn0_0 (check_dimen_spec (by kdl_here) (by kdl_here)) (by kdl_here) (by kpf_close) ?_
  refine w_loc rfl <| w_setOwn (by kcf_m) (by kcf_m) (by assumption) (by kdl_here) (by kd_in) fun _ _ _ => ⟨_, by kcj_m, ?_⟩
  refine seq_next <| w_execs_cons <| w_AssignAttr <| w_loc rfl <| w_loc rfl <| w_setOwn (by kcf_m) (by kcf_m) (by assumption) (by kdl_here) (by kd_in) fun _ _ _ => ⟨_, by kcj_m, ?_⟩
  refine seq_next <| w_execs_nil ?_
  rename_i es6 n6 hf6 es7 n7 hf7
  exact hN _ _ <| drop_ (l := [[(x, instObj 336 dx)], [(dx, dictOf es7 n7)]]) (l2 := [(x, instObj 336 dx) :: (dx, dictOf es7 n7) :: []]) (by kpf_close) rfl ⟨rfl, _, ⟨_, _, _, _, _, _, rfl, hf7, rfl, ⟨rfl, ⟨_, rfl⟩, ⟨_, rfl⟩⟩⟩, rfl⟩


def WaitIs (ts : List Ent) (v : Value) (x : Int) : Prop := ∃ a t pa t2, v = .ref a ∧ (a, tupO [.int x t, .ref pa, .bool false]) ∈ ts ∧ (pa, tupO [.int x t2]) ∈ ts
inductive WaitAre (ts : List Ent) : List Value → List Int → Prop
  | nil : WaitAre ts [] []
  | snoc {vs : List Value} {xs : List Int} {v : Value} {x : Int} : WaitAre ts vs xs → WaitIs ts v x → WaitAre ts (vs ++ [v]) (xs ++ [x])
theorem WaitAre.mono {ts ts' : List Ent} {vs : List Value} {xs : List Int} (h : WaitAre ts vs xs) (k : ∀ x ∈ ts, x ∈ ts') : WaitAre ts' vs xs := by
  induction h with
  | nil => exact .nil
  | snoc _ h2 ih =>
    obtain ⟨a, t, pa, t2, e, m1, m2⟩ := h2
    exact .snoc ih ⟨a, t, pa, t2, e, k _ m1, k _ m2⟩
theorem WaitAre.length {ts : List Ent} {vs : List Value} {xs : List Int} (h : WaitAre ts vs xs) : vs.length = xs.length := by
  induction h with
  | nil => rfl
  | snoc _ _ ih => simp [ih]
theorem WaitAre.pop {ts : List Ent} {vs : List Value} {xs : List Int} {x : Int} (h : WaitAre ts vs (xs ++ [x])) : ∃ vs' v, vs = vs' ++ [v] ∧ WaitAre ts vs' xs ∧ WaitIs ts v x := by
  generalize e : xs ++ [x] = ys at h
  cases h with
  | nil => simp at e
  | @snoc vs' xs' v x' h1 h2 =>
    obtain ⟨rfl, e2⟩ := List.append_inj' e rfl
    cases e2
    exact ⟨_, _, rfl, h1, h2⟩
/-- the fields of a Word -/
inductive WF (fl : List (Str × Value)) (f wl tn fd : Addr) (going : Bool) : Prop
  | mk (f1 : fl.lookup (Str.ofString "font") = some (.ref f)) (f2 : fl.lookup (Str.ofString "waiting") = some (.ref wl)) (f3 : fl.lookup (Str.ofString "now") = some (.ref tn)) (f4 : ∃ t, fl.lookup (Str.ofString "edge") = some (.int 256 t)) (f5 : fl.lookup (Str.ofString "found") = some (.ref fd)) (f6 : fl.lookup (Str.ofString "hit_left") = some (.bool false)) (f7 : fl.lookup (Str.ofString "hit_right") = some (.bool false)) (f8 : fl.lookup (Str.ofString "is_going") = some (.bool going)) (f9 : fl.length ≤ 20) : WF fl f wl tn fd going
inductive WordL (w dw wl f fd : Addr) (nc : Int) (np : List Int) (nm : Bool) (rest : List Int) (going : Bool) (l : Led) : Prop
  | mk (es : List DictEntry) (n : Nat) (fl : List (Str × Value)) (wvs : List Value) (wn : Nat) (tn : Addr) (tc : Tok) (pa : Addr) (pvs : List Value) (ts : List Ent) (e : l = [[(w, instObj 363 dw)], [(dw, dictOf es n)], [(wl, listOf (List.toArray wvs) wn)], ts]) (m1 : (tn, tupO [.int nc tc, .ref pa, .bool nm]) ∈ ts) (m2 : (pa, tupO pvs) ∈ ts) (hi : IntsAre pvs np) (hf : FAre es fl) (hF : WF fl f wl tn fd going) (hw : WaitAre ts wvs rest.reverse) : WordL w dw wl f fd nc np nm rest going l
theorem ints_rev {vs : List Value} {ns : List Int} (h : IntsAre vs ns) : IntsAre vs.reverse ns.reverse := by
  induction h with
  | nil => exact .nil
  | cons n t _ ih => rw [List.reverse_cons, List.reverse_cons]; exact ih.append (.cons n t .nil)
set_option maxHeartbeats 8000000 in
theorem word_spec {w dw f cl : Addr} {x : Int} {rest : List Int} {cvs : List Value} {cn : Nat} {t : Tok} (hv : IntsAre cvs (x :: rest)) (hz : cvs.length ≤ 900) :
    Fn 1 360 [.ref w, .ref f, .ref cl, .bool false, .int 256 t] [[(w, instObj 363 dw)], [(dw, dictOf [] 0)], [(cl, listOf cvs.toArray cn)]] fun r fp => r = .none ∧ ∃ wl fd l, WordL w dw wl f fd x [x] false rest true l ∧ fp = l ++ [[(fd, listOf #[] 0)], [(cl, listOf cvs.toArray cn)]] := by
  refine fn_intro (binds := [((Str.ofString "self"), .ref w), ((Str.ofString "font"), .ref f), ((Str.ofString "codes"), .ref cl), ((Str.ofString "has_left"), .bool false), ((Str.ofString "edge"), .int 256 t)]) (gl' := [])
    (ls0 := [((Str.ofString "self"), some (.ref w)), ((Str.ofString "font"), some (.ref f)), ((Str.ofString "codes"), some (.ref cl)), ((Str.ofString "has_left"), some (.bool false)), ((Str.ofString "edge"), some (.int 256 t))]) (H := ?_)
  intro Γ K hr hc hK hN
  have hf0 : FAre [] [] := .nil
  refine w_execs_cons <| w_AssignAttr <| w_loc rfl <| w_loc rfl <| w_setOwn (by kcf_m) (by kcf_m) (by assumption) (by kdl_here) (by kd_in) fun _ _ _ => ⟨_, by kcj_m, ?_⟩
  refine seq_next <| w_execs_cons <| w_AssignAttr ?_
  rename_i es1 n1 hf1
  refine w_ListComp hc (gl' := []) (cl' := []) (CompOk.of rfl rfl rfl rfl rfl rfl (by intro p9; kqd_in)) ?_ (by intro _; rfl)
  refine w_Subscript <| w_loc rfl <| w_Slice <| w_partNone <| w_partNone <| w_partSome <| w_UnaryOp <| w_int fun _ => w_neg fun _ => all_sl fun _ => ?_
  rename_i sl
  refine w_sliceL (by kcf_m) (by kcf_m) .none .none (.int _ _) (by decide) (slice_rev _) (by kdl_here) ?_ (by with_unfolding_all rfl) (by intro _; with_unfolding_all rfl)
  intro rl
  have hv2 := ints_rev hv
  refine ⟨cvs.reverse.length, _, _, fun j ys led => ∃ ts, WaitAre ts ys ((x :: rest).reverse.take j) ∧ led = [[(rl, listOf cvs.reverse.toArray 0)], [(w, instObj 363 dw)], [(dw, dictOf es1 n1)], [(cl, listOf cvs.toArray cn)], ts], iter_list (by kcf_m),
    drop_ (l := [[(rl, listOf cvs.reverse.toArray 0)], [(w, instObj 363 dw)], [(dw, dictOf es1 n1)], [(cl, listOf cvs.toArray cn)]]) (l2 := [[(rl, listOf cvs.reverse.toArray 0)], [(w, instObj 363 dw)], [(dw, dictOf es1 n1)], [(cl, listOf cvs.toArray cn)], []]) (by kpf_close) rfl ⟨[], .nil, rfl⟩, ?_, ?_, ?_⟩
  · rintro j ys led ⟨ts, hw, rfl⟩
    refine ⟨by kcf_m, ?_⟩
    rw [hw.length, List.length_take, List.length_reverse, ← hv.length]; lia
  · rintro Γc j v ys led K2 hrc ⟨mc, hcc⟩ hj hv3 ⟨ts, hw, rfl⟩ hK2
    refine letG ?_; intro G9
    obtain ⟨q, tq, rfl, hq⟩ := ints_all hv2 hv3
    unfold G9; clear G9
    refine w_Tuple <| w_items_cons <| w_loc rfl <| w_items_cons <| w_Tuple <| w_items_cons <| w_loc rfl <| w_items_nil <| w_newTuple (by kdl_here) fun _ => ?_
    refine w_items_cons <| w_bool <| w_items_nil <| w_newTuple (by kdl_here) fun _ => ?_
    rename_i pa a
    refine hK2 _ _ _ <| drop_ (l := [[(rl, listOf cvs.reverse.toArray 0)], [(w, instObj 363 dw)], [(dw, dictOf es1 n1)], [(cl, listOf cvs.toArray cn)], [(a, tupO _)], [(pa, tupO _)], ts]) (l2 := [[(rl, listOf cvs.reverse.toArray 0)], [(w, instObj 363 dw)], [(dw, dictOf es1 n1)], [(cl, listOf cvs.toArray cn)], (a, tupO _) :: (pa, tupO _) :: ts]) (by kpf_close) rfl ⟨_, ?_, rfl⟩
    rw [List.take_add_one, hq]
    exact .snoc (hw.mono fun x h => .tail _ (.tail _ h)) ⟨_, _, _, _, rfl, .head _, .tail _ (.head _)⟩
  · rintro D cnt ys led' ⟨ts, hw, rfl⟩
    rw [List.length_reverse, hv.length, ← List.length_reverse, List.take_length] at hw
    rw [List.reverse_cons] at hw
    refine letG ?_; intro G9
    obtain ⟨vs', v, rfl, hw1, a, ta, pa, t2, rfl, m1, m2⟩ := hw.pop
    unfold G9; clear G9
    refine w_loc rfl <| w_setOwn (by kcf_m) (by kcf_m) (by assumption) (by kdl_here) (by kd_in) fun _ _ _ => ⟨_, by kcj_m, ?_⟩
    refine seq_next <| w_execs_cons <| w_AssignAttr <| w_IfExp <| w_tValue <| w_loc rfl <| w_truthyB <| ite_F <| w_CallAttr <| w_Attr <| w_loc rfl <| w_getOwn (attr := none) (by kcf_m) (by kcf_m) (by assumption) (by kd_p1) (by exact rfl) (by kd_in) ?_
    refine w_meth (by kcf_m) PySem.F.slot_list_pop PySem.F.type_list_pop ?_
    refine w_callBm0 ?_
    refine w_pop (by kcj_m) (by have h1 := hw1.length; have h2 := hv.length; rw [List.length_reverse] at h1; rw [List.length_cons] at h2; lia) ?_
    refine w_loc rfl <| w_setOwn (by kcf_m) (by kcf_m) (by assumption) (by kdl_here) (by kd_in) fun _ _ _ => ⟨_, by kcj_m, ?_⟩
    refine seq_next <| w_execs_cons <| w_AssignAttr <| w_loc rfl <| w_loc rfl <| w_setOwn (by kcf_m) (by kcf_m) (by assumption) (by kdl_here) (by kd_in) fun _ _ _ => ⟨_, by kcj_m, ?_⟩
    refine seq_next <| w_execs_cons <| w_AssignAttr <| w_List <| w_items_nil <| w_newList (by kdl_here) fun _ => ?_
    refine w_loc rfl <| w_setOwn (by kcf_m) (by kcf_m) (by assumption) (by kdl_here) (by kd_in) fun _ _ _ => ⟨_, by kcj_m, ?_⟩
    refine seq_next <| w_execs_cons <| w_AssignAttr <| w_bool <| w_loc rfl <| w_setOwn (by kcf_m) (by kcf_m) (by assumption) (by kdl_here) (by kd_in) fun _ _ _ => ⟨_, by kcj_m, ?_⟩
    refine seq_next <| w_execs_cons <| w_AssignAttr <| w_bool <| w_loc rfl <| w_setOwn (by kcf_m) (by kcf_m) (by assumption) (by kdl_here) (by kd_in) fun _ _ _ => ⟨_, by kcj_m, ?_⟩
    refine seq_next <| w_execs_cons <| w_AssignAttr <| w_bool <| w_loc rfl <| w_setOwn (by kcf_m) (by kcf_m) (by assumption) (by kdl_here) (by kd_in) fun _ _ _ => ⟨_, by kcj_m, ?_⟩
    refine seq_next <| w_execs_nil ?_
    rename_i fd es3 n3 hf3 es4 n4 hf4 es5 n5 hf5 es6 n6 hf6
    exact hN _ _ <| drop_ (l := [[(w, instObj 363 dw)], [(dw, dictOf es6 n6)], [(D, listOf (List.toArray vs') _)], ts, [(fd, listOf #[] 0)], [(cl, listOf cvs.toArray cn)]]) (by kpf_close) rfl
      ⟨rfl, D, fd, _, ⟨_, _, _, _, _, _, _, _, _, _, rfl, m1, m2, .cons _ _ .nil, hf6, ⟨rfl, rfl, rfl, ⟨_, rfl⟩, rfl, rfl, rfl, rfl, Nat.le_of_ble_eq_true rfl⟩, hw1⟩, rfl⟩


inductive NodesIn (ns : List Ent) : List Value → List Node → Prop
  | nil : NodesIn ns [] []
  | snoc {vs : List Value} {nds : List Node} {v : Value} {nd : Node} {own : List Ent} : NodesIn ns vs nds → NodeC v nd own → (∀ x ∈ own, x ∈ ns) → NodesIn ns (vs ++ [v]) (nds ++ [nd])
theorem NodesIn.mono {ns ns' : List Ent} {vs : List Value} {nds : List Node} (h : NodesIn ns vs nds) (k : ∀ x ∈ ns, x ∈ ns') : NodesIn ns' vs nds := by
  induction h with
  | nil => exact .nil
  | snoc _ h2 h3 ih => exact .snoc ih h2 fun x hx => k _ (h3 x hx)
theorem NodesIn.length {ns : List Ent} {vs : List Value} {nds : List Node} (h : NodesIn ns vs nds) : vs.length = nds.length := by
  induction h with
  | nil => rfl
  | snoc _ _ _ ih => simp [ih]
theorem NodesIn.app {ns : List Ent} {vs vs' : List Value} {nds nds' : List Node} (h : NodesIn ns vs nds) (h' : NodesIn ns vs' nds') : NodesIn ns (vs ++ vs') (nds ++ nds') := by
  induction h' with
  | nil => simpa using h
  | snoc _ h2 h3 ih => rw [← List.append_assoc, ← List.append_assoc]; exact .snoc ih h2 h3
/-- a Word and its list of nodes -/
inductive WSt (w dw wl f fd : Addr) (nc : Int) (np : List Int) (nm : Bool) (rest : List Int) (going : Bool) (nds : List Node) (l : Led) : Prop
  | mk (es : List DictEntry) (n : Nat) (fl : List (Str × Value)) (wvs : List Value) (wn : Nat) (tn : Addr) (tc : Tok) (pa : Addr) (pvs : List Value) (ts : List Ent) (fvs : List Value) (fn : Nat) (ns : List Ent)
    (e : l = [[(w, instObj 363 dw)], [(dw, dictOf es n)], [(wl, listOf (List.toArray wvs) wn)], ts, [(fd, listOf (List.toArray fvs) fn)], ns]) (m1 : (tn, tupO [.int nc tc, .ref pa, .bool nm]) ∈ ts) (m2 : (pa, tupO pvs) ∈ ts) (hi : IntsAre pvs np) (hf : FAre es fl) (hF : WF fl f wl tn fd going) (hw : WaitAre ts wvs rest.reverse) (hn : NodesIn ns fvs nds) : WSt w dw wl f fd nc np nm rest going nds l
def nodeOf (nc : Int) (np : List Int) (nm : Bool) : Node := if nm then .lig nc np else .chr nc
theorem setF_ne {x y : Str} {v : Value} (h : (x == y) = false) : ∀ fl : List (Str × Value), (setF x v fl).lookup y = fl.lookup y
  | [] => by
    rw [setF, List.lookup_cons]
    have : (y == x) = false := by rw [BEq.comm]; exact h
    rw [this]
  | (z, u) :: r => by
    rw [setF]
    by_cases e : (z == x) = true
    · have e' : z = x := by simpa using e
      subst e'
      rw [if_pos e, List.lookup_cons, List.lookup_cons]
      have : (y == z) = false := by rw [BEq.comm]; exact h
      rw [this]
    · rw [if_neg e, List.lookup_cons, List.lookup_cons, setF_ne h r]
theorem setF_eq {x : Str} {v : Value} : ∀ fl : List (Str × Value), (setF x v fl).lookup x = some v
  | [] => by rw [setF, List.lookup_cons]; simp
  | (z, u) :: r => by
    rw [setF]
    by_cases e : (z == x) = true
    · have e' : z = x := by simpa using e
      subst e'
      rw [if_pos e, List.lookup_cons]; simp
    · have e' : (x == z) = false := by rw [BEq.comm]; simpa using e
      rw [if_neg e, List.lookup_cons, e']
      exact setF_eq r
theorem setF_len {x : Str} {v u : Value} : ∀ {fl : List (Str × Value)}, fl.lookup x = some u → (setF x v fl).length = fl.length
  | [], h => by cases h
  | (z, w) :: r, h => by
    rw [setF]
    by_cases e : (z == x) = true
    · rw [if_pos e]; rfl
    · have e' : (x == z) = false := by rw [BEq.comm]; simpa using e
      rw [List.lookup_cons, e'] at h
      rw [if_neg e, List.length_cons, List.length_cons, setF_len h]
theorem wf_left {fl : List (Str × Value)} {f wl tn fd : Addr} {going : Bool} (h : WF fl f wl tn fd going) : WF (setF (Str.ofString "hit_left") (.bool false) fl) f wl tn fd going := by
  obtain ⟨f1, f2, f3, ⟨t, f4⟩, f5, f6, f7, f8, f9⟩ := h
  exact ⟨(setF_ne (by decide) _).trans f1, (setF_ne (by decide) _).trans f2, (setF_ne (by decide) _).trans f3, ⟨t, (setF_ne (by decide) _).trans f4⟩, (setF_ne (by decide) _).trans f5, setF_eq _, (setF_ne (by decide) _).trans f7, (setF_ne (by decide) _).trans f8, by rw [setF_len f6]; exact f9⟩
theorem wf_now {fl : List (Str × Value)} {f wl tn tn' fd : Addr} {going : Bool} (h : WF fl f wl tn fd going) : WF (setF (Str.ofString "now") (.ref tn') fl) f wl tn' fd going := by
  obtain ⟨f1, f2, f3, ⟨t, f4⟩, f5, f6, f7, f8, f9⟩ := h
  exact ⟨(setF_ne (by decide) _).trans f1, (setF_ne (by decide) _).trans f2, setF_eq _, ⟨t, (setF_ne (by decide) _).trans f4⟩, (setF_ne (by decide) _).trans f5, (setF_ne (by decide) _).trans f6, (setF_ne (by decide) _).trans f7, (setF_ne (by decide) _).trans f8, by rw [setF_len f3]; exact f9⟩
theorem wf_going {fl : List (Str × Value)} {f wl tn fd : Addr} {going going' : Bool} (h : WF fl f wl tn fd going) : WF (setF (Str.ofString "is_going") (.bool going') fl) f wl tn fd going' := by
  obtain ⟨f1, f2, f3, ⟨t, f4⟩, f5, f6, f7, f8, f9⟩ := h
  exact ⟨(setF_ne (by decide) _).trans f1, (setF_ne (by decide) _).trans f2, (setF_ne (by decide) _).trans f3, ⟨t, (setF_ne (by decide) _).trans f4⟩, (setF_ne (by decide) _).trans f5, (setF_ne (by decide) _).trans f6, (setF_ne (by decide) _).trans f7, setF_eq _, by rw [setF_len f8]; exact f9⟩
set_option maxHeartbeats 8000000 in
theorem leave_spec {w dw wl f fd : Addr} {nc : Int} {np : List Int} {nm : Bool} {rest : List Int} {going : Bool} {nds : List Node} {l : Led} (hW : WSt w dw wl f fd nc np nm rest going nds l) (h0 : 0 ≤ nc) (h1 : nc ≤ 255) (hns : ∀ n ∈ np, 0 ≤ n ∧ n ≤ 255) (hz : np.length ≤ 900) (hz2 : nds.length ≤ 900) :
    Fn 6 374 [.ref w] l fun r fp => r = .none ∧ WSt w dw wl f fd nc np nm rest going (nds ++ [nodeOf nc np nm]) fp := by
  refine letG ?_; intro G9
  obtain ⟨es, n, fl, wvs, wn, tn, tc, pa, pvs, ts, fvs, fn, ns, rfl, m1, m2, hi, hf0, ⟨f1, f2, f3, f4, f5, f6, f7, f8, f9⟩, hw, hn⟩ := hW
  unfold G9; clear G9
  refine fn_intro (binds := [((Str.ofString "word"), .ref w)]) (gl' := [((Str.ofString "Ligature"), .ref 315), ((Str.ofString "Char"), .ref 295)])
    (ls0 := [((Str.ofString "word"), some (.ref w)), ((Str.ofString "code"), none), ((Str.ofString "parts"), none), ((Str.ofString "is_made"), none)]) (H := ?_)
  intro Γ K hr hc hK hN
  refine w_execs_cons <| w_If <| w_tCompare1 <| w_Attr <| w_loc rfl <| w_getOwn (attr := none) (by kcf_m) (by kcf_m) (by assumption) (by kd_p1) (by exact rfl) (by kd_in) ?_
  refine w_none <| w_isNoneR <| w_truthyB <| ite_F <| w_execs_nil <| seq_next <| w_execs_cons <| w_AssignUn (w_Attr <| w_loc rfl <| w_getOwn (attr := none) (by kcf_m) (by kcf_m) (by assumption) (by kd_p1) (by exact rfl) (by kd_in) ?_) rfl
  refine w_assignTup (by kcf_m) (by exact rfl) (by exact rfl) ?_
  refine w_inOrder_cons rfl <| w_assignName <| w_store (by assumption) (by kpt_turns) ?_
  refine w_inOrder_cons rfl <| w_assignName <| w_store (by assumption) (by kpt_turns) ?_
  refine w_inOrder_cons rfl <| w_assignName <| w_store (by assumption) (by kpt_turns) ?_
  refine w_inOrder_nil <| seq_next <| w_execs_cons <| w_If <| w_tValue <| w_loc rfl <| w_truthyB ?_
  have hzp := hi.length
  have hnl := hn.length
  cases nm with
  | true =>
    refine ite_T <| w_execs_cons <| w_Expr <| w_CallAttr <| w_Attr <| w_loc rfl <| w_getOwn (attr := none) (by kcf_m) (by kcf_m) (by assumption) (by kd_p1) (by exact rfl) (by kd_in) ?_
    refine w_meth (by kcf_m) PySem.F.slot_list_append PySem.F.type_list_append ?_
    refine w_callBm <| w_items_cons <| w_CallName <| w_glob rfl <| w_callK (by kd_p) ?_
    refine w_items_cons <| w_Attr <| w_loc rfl <| w_getOwn (attr := none) (by kcf_m) (by kcf_m) (by assumption) (by kd_p1) (by exact rfl) (by kd_in) ?_
    refine w_items_cons <| w_loc rfl <| w_items_cons <| w_loc rfl <| w_items_cons <| w_Attr <| w_loc rfl <| w_getOwn (attr := none) (by kcf_m) (by kcf_m) (by assumption) (by kd_p1) (by exact rfl) (by kd_in) ?_
    refine w_items_cons <| w_And <| w_Attr <| w_loc rfl <| w_getOwn (attr := none) (by kcf_m) (by kcf_m) (by assumption) (by kd_p1) (by exact rfl) (by kd_in) ?_
    refine w_truthyB <| ite_F <| w_items_nil ?_
    refine w_callCls (fI := 312) (fun x dx => lig_spec m2 h0 h1 hi hns (by kdl_here)) (by kdl_here) (by intro p9; exact ⟨by k_dflt k_is, by k_dflt k_is, by k_dflt k_is⟩) (by kpf_close) ?_
    rintro x dx v fp' ⟨rfl, own, hnode, rfl⟩
    refine ⟨rfl, ?_⟩
    refine w_items_nil <| w_isAppend <| w_append (by kcj_m) (by kdl_here) ?_
    refine none_and <| seq_next <| w_execs_cons <| w_AssignAttr <| w_bool <| w_loc rfl <| w_setOwn (by kcf_m) (by kcf_m) (by assumption) (by kdl_here) (by kd_in) fun _ _ _ => ⟨_, by kcj_m, ?_⟩
    refine seq_next <| w_execs_nil <| seq_next <| w_execs_nil ?_
    rename_i es2 n2 hf2
    exact hN _ _ <| drop_ (l := [[(w, instObj 363 dw)], [(dw, dictOf es2 n2)], [(wl, listOf (List.toArray wvs) wn)], ts, [(fd, listOf (List.toArray (fvs ++ [.ref x])) (fn + 1))], own, ns])
      (l2 := [[(w, instObj 363 dw)], [(dw, dictOf es2 n2)], [(wl, listOf (List.toArray wvs) wn)], ts, [(fd, listOf (List.toArray (fvs ++ [.ref x])) (fn + 1))], own ++ ns]) (by kpf_close) (by simp)
      ⟨rfl, _, _, _, _, _, _, _, _, _, _, _, _, _, rfl, m1, m2, hi, hf2, wf_left ⟨f1, f2, f3, f4, f5, f6, f7, f8, f9⟩, hw, .snoc (hn.mono fun x h => List.mem_append_right _ h) hnode fun x h => List.mem_append_left _ h⟩
  | false =>
    refine ite_F <| w_execs_cons <| w_Expr <| w_CallAttr <| w_Attr <| w_loc rfl <| w_getOwn (attr := none) (by kcf_m) (by kcf_m) (by assumption) (by kd_p1) (by exact rfl) (by kd_in) ?_
    refine w_meth (by kcf_m) PySem.F.slot_list_append PySem.F.type_list_append ?_
    refine w_callBm <| w_items_cons <| w_CallName <| w_glob rfl <| w_callK (by kd_p) ?_
    refine w_items_cons <| w_Attr <| w_loc rfl <| w_getOwn (attr := none) (by kcf_m) (by kcf_m) (by assumption) (by kd_p1) (by exact rfl) (by kd_in) ?_
    refine w_items_cons <| w_loc rfl <| w_items_nil ?_
    refine w_callCls (fI := 292) (fp := []) (fun x dx => char_spec h0 h1) (by kdl_here) (by intro p9; exact ⟨by k_dflt k_is, by k_dflt k_is, by k_dflt k_is⟩) (by kpf_close) ?_
    rintro x dx v fp' ⟨rfl, own, hnode, rfl⟩
    refine ⟨rfl, ?_⟩
    refine w_items_nil <| w_isAppend <| w_append (by kcj_m) (by kdl_here) ?_
    refine none_and <| seq_next <| w_execs_nil <| seq_next <| w_execs_nil ?_
    exact hN _ _ <| drop_ (l := [[(w, instObj 363 dw)], [(dw, dictOf es n)], [(wl, listOf (List.toArray wvs) wn)], ts, [(fd, listOf (List.toArray (fvs ++ [.ref x])) (fn + 1))], own, ns])
      (l2 := [[(w, instObj 363 dw)], [(dw, dictOf es n)], [(wl, listOf (List.toArray wvs) wn)], ts, [(fd, listOf (List.toArray (fvs ++ [.ref x])) (fn + 1))], own ++ ns]) (by kpf_close) (by simp)
      ⟨rfl, _, _, _, _, _, _, _, _, _, _, _, _, _, rfl, m1, m2, hi, hf0, ⟨f1, f2, f3, f4, f5, f6, f7, f8, f9⟩, hw, .snoc (hn.mono fun x h => List.mem_append_right _ h) hnode fun x h => List.mem_append_left _ h⟩


section
variable {Γ : Fm} {gl : List (Str × Value)} {cl : List (Str × Addr)} {ls : Locs} {led : Led}
def waitD (x : Int) : PyData := .tuple [.int x, .tuple [.int x], .bool false]
theorem wait_rds {ts : List Ent} {vs : List Value} {xs : List Int} (h : WaitAre ts vs xs) (hts : ∀ x ∈ ts, x ∈ led.flatten) : Rds led vs (xs.map waitD) := by
  induction h with
  | nil => exact .nil
  | snoc _ h2 ih =>
    obtain ⟨a, t, pa, t2, rfl, m1, m2⟩ := h2
    rw [List.map_append]
    exact ih.app (.cons (.tup (.of_mem (hts _ m1)) (.cons (.int _ _) (.cons (.tup (.of_mem (hts _ m2)) (.cons (.int _ _) .nil)) (.cons (.bool _) .nil)))) .nil)
theorem w_waitEq {ts : List Ent} {wl b : Addr} {vs : List Value} {wn m : Nat} {xs : List Int} {Q : Value → Locs → Led → Prop} (al : At wl (listOf (List.toArray vs) wn) led) (ab : At b (listOf (List.toArray []) m) led) (hw : WaitAre ts vs xs) (hts : ∀ x ∈ ts, x ∈ led.flatten)
    (h : Q (.bool (decide (xs = []))) ls led) : WP Γ gl cl ls led (compareOp .Eq (.ref wl) (.ref b)) Q := by
  have e1 : ∀ ys : List Int, PyData.canLayAll0 (ys.map waitD) = true := fun ys => by
    induction ys with
    | nil => rfl
    | cons y r ih => exact ih
  have e2 : ∀ ys : List Int, PyData.depthAll (ys.map waitD) ≤ 8 := fun ys => by
    induction ys with
    | nil => exact Nat.zero_le _
    | cons y r ih =>
      have : PyData.depthAll ((y :: r).map waitD) = max (waitD y).depth (PyData.depthAll (r.map waitD)) := rfl
      rw [this]
      exact Nat.max_le.mpr ⟨Nat.le_of_ble_eq_true rfl, ih⟩
  refine w_eqD (.list al (wait_rds hw hts)) (.list (ds := []) ab .nil) (e1 _) rfl ?_ ?_
  · have : (PyData.list (xs.map waitD)).depth = 1 + PyData.depthAll (xs.map waitD) ∨ (PyData.list (xs.map waitD)).depth = PyData.depthAll (xs.map waitD) + 1 := by first | exact .inl rfl | exact .inr rfl
    have := e2 xs
    lia
  · cases xs with
    | nil => exact h
    | cons y r => exact h
end
def passR (w dw wl f fd : Addr) (nc : Int) (np : List Int) (nm : Bool) (nds : List Node) (fp : Led) : List Int → Prop
  | [] => WSt w dw wl f fd nc np nm [] false (nds ++ [nodeOf nc np nm]) fp
  | x :: rest' => WSt w dw wl f fd x [x] false rest' true (nds ++ [nodeOf nc np nm]) fp
set_option maxHeartbeats 8000000 in
theorem pass_on_spec {w dw wl f fd : Addr} {nc : Int} {np : List Int} {nm : Bool} {rest : List Int} {nds : List Node} {l : Led} (hW : WSt w dw wl f fd nc np nm rest true nds l) (h0 : 0 ≤ nc) (h1 : nc ≤ 255) (hns : ∀ n ∈ np, 0 ≤ n ∧ n ≤ 255) (hz : np.length ≤ 900) (hz2 : nds.length ≤ 900) (hz3 : rest.length ≤ 900) :
    Fn 7 381 [.ref w] l fun r fp => r = .none ∧ passR w dw wl f fd nc np nm nds fp rest := by
  have hW0 := hW
  refine letG ?_; intro G9
  obtain ⟨es, n, fl, wvs, wn, tn, tc, pa, pvs, ts, fvs, fn, ns, rfl, -, -, -, -, -, -, -⟩ := hW
  unfold G9; clear G9
  refine fn_intro (binds := [((Str.ofString "word"), .ref w)]) (gl' := [((Str.ofString "leave"), .ref 374)])
    (ls0 := [((Str.ofString "word"), some (.ref w))]) (H := ?_)
  intro Γ K hr hc hK hN
  refine w_execs_cons <| w_Expr <| w_CallName <| w_glob rfl <| w_callK (by kd_p) ?_
  refine w_items_cons <| w_loc rfl <| w_items_nil ?_
  refine w_fn (leave_spec hW0 h0 h1 hns hz hz2) (by kdl_here) (by kpf_close) ?_
  clear hW0
  rintro v fp' ⟨rfl, es, n, fl, wvs, wn, tn, tc, pa, pvs, ts, fvs, fn, ns, rfl, m1, m2, hi, hf0, hF, hw, hn⟩
  have hF0 := hF
  refine letG ?_; intro G9
  obtain ⟨f1, f2, f3, f4, f5, f6, f7, f8, f9⟩ := hF
  unfold G9; clear G9
  refine none_and <| seq_next <| w_execs_cons <| w_If <| w_tCompare1 <| w_Attr <| w_loc rfl <| w_getOwn (attr := none) (by kcf_m) (by kcf_m) (by assumption) (by kd_p1) (by exact rfl) (by kd_in) ?_
  refine w_List <| w_items_nil <| w_newList (by kdl_here) fun _ => ?_
  refine w_waitEq (by kcf_m) (by kcf_m) hw (fun x h => by simp [h]) ?_
  refine w_truthyB ?_
  cases rest with
  | nil =>
    rw [show decide (([] : List Int).reverse = []) = true from rfl]
    refine ite_T <| w_execs_cons <| w_AssignAttr <| w_bool <| w_loc rfl <| w_setOwn (by kcf_m) (by kcf_m) (by assumption) (by kdl_here) (by kd_in) fun _ _ _ => ⟨_, by kcj_m, ?_⟩
    refine seq_next <| w_execs_nil <| seq_next <| w_execs_nil ?_
    rename_i es2 n2 hf2
    exact hN _ _ <| done_ (l := [[(w, instObj 363 dw)], [(dw, dictOf es2 n2)], [(wl, listOf (List.toArray wvs) wn)], ts, [(fd, listOf (List.toArray fvs) fn)], ns]) (by kpf_close)
      ⟨rfl, _, _, _, _, _, _, _, _, _, _, _, _, _, rfl, m1, m2, hi, hf2, wf_going hF0, hw, hn⟩
  | cons x rest' =>
    rw [show decide ((x :: rest').reverse = []) = false from decide_eq_false (by simp)]
    rw [List.reverse_cons] at hw
    refine letG ?_; intro G9
    obtain ⟨wvs', v, rfl, hw1, a, ta, pa2, t2, rfl, k1, k2⟩ := hw.pop
    unfold G9; clear G9
    refine ite_F <| w_execs_cons <| w_AssignAttr <| w_CallAttr <| w_Attr <| w_loc rfl <| w_getOwn (attr := none) (by kcf_m) (by kcf_m) (by assumption) (by kd_p1) (by exact rfl) (by kd_in) ?_
    refine w_meth (by kcf_m) PySem.F.slot_list_pop PySem.F.type_list_pop ?_
    refine w_callBm0 ?_
    refine w_pop (by kcj_m) (by have := hw1.length; rw [List.length_reverse] at this; rw [List.length_cons] at hz3; lia) ?_
    refine w_loc rfl <| w_setOwn (by kcf_m) (by kcf_m) (by assumption) (by kdl_here) (by kd_in) fun _ _ _ => ⟨_, by kcj_m, ?_⟩
    refine seq_next <| w_execs_nil <| seq_next <| w_execs_nil ?_
    rename_i es2 n2 hf2
    exact hN _ _ <| done_ (l := [[(w, instObj 363 dw)], [(dw, dictOf es2 n2)], [(wl, listOf (List.toArray wvs') (wn + 1))], ts, [(fd, listOf (List.toArray fvs) fn)], ns]) (by kpf_close)
      ⟨rfl, _, _, _, _, _, _, _, _, _, _, _, _, _, rfl, k1, k2, .cons _ _ .nil, hf2, wf_now hF0, hw1, hn⟩


set_option maxHeartbeats 8000000 in
theorem put_spec {w dw wl f fd : Addr} {nc x code : Int} {np : List Int} {nm : Bool} {rest : List Int} {nds : List Node} {l : Led} {t u : Tok} (hW : WSt w dw wl f fd nc np nm (x :: rest) true nds l) (hz : np.length ≤ 900) (hz3 : rest.length ≤ 900) (hnp : np ≠ []) :
    Fn 1 388 [.ref w, .int 0 t, .int code u] l fun r fp => r = .none ∧ WSt w dw wl f fd code (np ++ [x]) true rest true nds fp := by
  refine letG ?_; intro G9
  obtain ⟨es, n, fl, wvs, wn, tn, tc, pa, pvs, ts, fvs, fn, ns, rfl, m1, m2, hi, hf0, hF, hw, hn⟩ := hW
  unfold G9; clear G9
  have hF0 := hF
  refine letG ?_; intro G9
  obtain ⟨f1, f2, f3, f4, f5, f6, f7, f8, f9⟩ := hF
  unfold G9; clear G9
  refine fn_intro (binds := [((Str.ofString "word"), .ref w), ((Str.ofString "op"), .int 0 t), ((Str.ofString "code"), .int code u)]) (gl' := [((Str.ofString "range"), .type "range"), ((Str.ofString "EDGE"), .int 256 321), ((Str.ofString "pass_on"), .ref 381)])
    (ls0 := [((Str.ofString "word"), some (.ref w)), ((Str.ofString "op"), some (.int 0 t)), ((Str.ofString "code"), some (.int code u)), ((Str.ofString "now"), none), ((Str.ofString "keeps_left"), none), ((Str.ofString "keeps_right"), none), ((Str.ofString "parts"), none), ((Str.ofString "taken"), none), ((Str.ofString "made"), none), ((Str.ofString "turn"), none)]) (H := ?_)
  intro Γ K hr hc hK hN
  refine w_execs_cons <| w_Assign <| w_Attr <| w_loc rfl <| w_getOwn (attr := none) (by kcf_m) (by kcf_m) (by assumption) (by kd_p1) (by exact rfl) (by kd_in) ?_
  refine w_store (by assumption) (by kpt_turns) ?_
  refine seq_next <| w_execs_cons <| w_If <| w_tCompare1 <| w_loc rfl <| w_none <| w_isNoneR <| w_truthyB <| ite_F <| w_execs_cons <| w_If <| w_tCompare1 <| w_Attr <| w_loc rfl <| w_getOwn (attr := none) (by kcf_m) (by kcf_m) (by assumption) (by kd_p1) (by exact rfl) (by kd_in) ?_
  refine w_List <| w_items_nil <| w_newList (by kdl_here) fun _ => ?_
  refine w_waitEq (by kcf_m) (by kcf_m) hw (fun x h => by simp [h]) ?_
  rw [show decide ((x :: rest).reverse = []) = false from decide_eq_false (by simp)]
  have hwp := hw
  rw [List.reverse_cons] at hwp
  refine letG ?_; intro G9
  obtain ⟨wvs', v, rfl, hw1, a, ta, pa2, t2, rfl, k1, k2⟩ := hwp.pop
  unfold G9; clear G9
  refine w_truthyB <| ite_F <| w_execs_nil <| seq_next <| w_execs_nil <| seq_next <| w_execs_cons ?_
  refine w_AssignSw (oa := none) (ob := none) rfl rfl ?_ ?hw
  case hw =>
    intro env h1 h2 h3
    unfold swappedStores
    simp only [h1, h2, h3, List.filterMap]
    kernel_rfl
  refine w_Tuple <| w_items_cons <| w_Compare1 <| w_BinOp <| w_BinOp <| w_loc rfl <| w_int fun _ => w_div (by kdl_here) (by kdl_here) fun _ => ?_
  refine w_int fun _ => w_mod (by kdl_here) fun _ => ?_
  refine w_int fun _ => w_eq <| w_items_cons <| w_Compare1 <| w_BinOp <| w_loc rfl <| w_int fun _ => w_mod (by kdl_here) fun _ => ?_
  refine w_int fun _ => w_eq <| w_items_nil <| w_newTuple (by kdl_here) fun _ => ?_
  refine ⟨_, .bool false, .bool false, rfl, by kcf_m, ?_⟩
  refine w_store (by assumption) (by kpt_turns) ?_
  refine w_store (by assumption) (by kpt_turns) ?_
  refine seq_next <| w_execs_cons <| w_Assign <| w_IfExp <| w_tBoolOp <| w_allAnd <| w_tCompare1 <| w_loc rfl <| w_none <| w_isNotNoneR <| w_truthyB <| ite_T <| w_allAnd <| w_tNot <| w_tValue <| w_loc rfl <| w_truthyB <| ite_nF <| w_allAndNil <| ite_T <| w_Subscript <| w_loc rfl <| w_int fun _ => w_subT (by kcf_m) (by decide) (by decide) (by exact rfl) ?_
  refine w_store (by assumption) (by kpt_turns) ?_
  refine seq_next <| w_execs_cons <| w_If <| w_tBoolOp <| w_allAnd <| w_tNot <| w_tValue <| w_loc rfl <| w_truthyB <| ite_nF <| w_allAnd <| w_tCompare1 <| w_Attr <| w_loc rfl <| w_getOwn (attr := none) (by kcf_m) (by kcf_m) (by assumption) (by kd_p1) (by exact rfl) (by kd_in) ?_
  refine w_List <| w_items_nil <| w_newList (by kdl_here) fun _ => ?_
  refine w_waitEq (by kcf_m) (by kcf_m) hw (fun x h => by simp [h]) ?_
  rw [show decide ((x :: rest).reverse = []) = false from decide_eq_false (by simp)]
  have hzw := hw1.length
  rw [List.length_reverse] at hzw
  have hzi := hi.length
  have hpv : pvs ≠ [] := fun e => by rw [e] at hzi; exact hnp (List.eq_nil_of_length_eq_zero hzi.symm)
  refine w_truthyB <| ite_F <| ite_F <| w_execs_cons <| w_If <| w_tNot <| w_tValue <| w_loc rfl <| w_truthyB <| ite_nF <| w_execs_cons <| w_Assign <| w_CallAttr <| w_Attr <| w_loc rfl <| w_getOwn (attr := none) (by kcf_m) (by kcf_m) (by assumption) (by kd_p1) (by exact rfl) (by kd_in) ?_
  refine w_meth (by kcf_m) PySem.F.slot_list_pop PySem.F.type_list_pop ?_
  refine w_callBm0 ?_
  refine w_pop (by kcj_m) (by kdl_here) ?_
  refine w_store (by assumption) (by kpt_turns) ?_
  refine seq_next <| w_execs_cons <| w_Assign <| w_BinOp <| w_loc rfl <| w_Subscript <| w_loc rfl <| w_int fun _ => w_subT (by kcf_m) (by decide) (by decide) (by exact rfl) ?_
  refine w_addT (ws := [.int x t2]) (by kcf_m) (by kcf_m) (by show pvs.length + 1 ≤ 100000; lia) (fun e => absurd e hpv) (fun _ e => nomatch e) (fun _ _ pn => ?_)
  refine w_store (by assumption) (by kpt_turns) ?_
  refine seq_next <| w_execs_nil <| seq_next <| w_execs_nil <| seq_next <| w_execs_cons <| w_Assign <| w_Tuple <| w_items_cons <| w_loc rfl <| w_items_cons <| w_loc rfl <| w_items_cons <| w_bool <| w_items_nil <| w_newTuple (by kdl_here) fun _ => ?_
  refine w_store (by assumption) (by kpt_turns) ?_
  refine seq_next <| w_execs_cons <| w_If <| w_tValue <| w_loc rfl <| w_truthyB <| ite_F <| w_execs_cons <| w_AssignAttr <| w_loc rfl <| w_loc rfl <| w_setOwn (by kcf_m) (by kcf_m) (by assumption) (by kdl_here) (by kd_in) fun _ _ _ => ⟨_, by kcj_m, ?_⟩
  refine seq_next <| w_execs_nil <| seq_next <| w_execs_cons ?_
  refine w_for4 ?_
  refine w_CallName <| w_glob rfl <| w_callT <| w_items_cons <| w_BinOp <| w_loc rfl <| w_int fun _ => w_div (by kdl_here) (by kdl_here) fun _ => ?_
  refine w_items_nil <| w_range1 fun _ _ _ => ?_
  rename_i md es2 n2 hf2 _ _ rg _ _
  refine ⟨0, _, fun _ => True, fun _ ls led => led = [[(w, instObj 363 dw)], [(dw, dictOf es2 n2)], [(wl, listOf (List.toArray wvs') (wn + 1))], (md, tupO [.int code u, .ref pn, .bool true]) :: (pn, tupO (pvs ++ [.int x t2])) :: ts, [(fd, listOf (List.toArray fvs) fn)], ns], _,
    IterOf.three (iter_range (.head (.head _)) (small_one (by decide) (by decide) (by decide) (by decide)) rfl) (by intro _ _; rfl),
    drop_ (l := [[(w, instObj 363 dw)], [(dw, dictOf es2 n2)], [(wl, listOf (List.toArray wvs') (wn + 1))], [(md, tupO [.int code u, .ref pn, .bool true])], [(pn, tupO (pvs ++ [.int x t2]))], ts, [(fd, listOf (List.toArray fvs) fn)], ns]) (l2 := [[(w, instObj 363 dw)], [(dw, dictOf es2 n2)], [(wl, listOf (List.toArray wvs') (wn + 1))], (md, tupO [.int code u, .ref pn, .bool true]) :: (pn, tupO (pvs ++ [.int x t2])) :: ts, [(fd, listOf (List.toArray fvs) fn)], ns]) (by kpf_close) rfl rfl,
    fun _ _ _ _ => trivial, fun i v own ls led K1 hi => absurd hi (Nat.not_lt_zero _), ?_⟩
  rintro ls led rfl
  refine seq_next <| w_execs_nil ?_
  exact hN _ _ <| done_ (l := [[(w, instObj 363 dw)], [(dw, dictOf es2 n2)], [(wl, listOf (List.toArray wvs') (wn + 1))], (md, tupO [.int code u, .ref pn, .bool true]) :: (pn, tupO (pvs ++ [.int x t2])) :: ts, [(fd, listOf (List.toArray fvs) fn)], ns]) (by kpf_close)
    ⟨rfl, _, _, _, _, _, _, _, _, _, _, _, _, _, rfl, .head _, .tail _ (.head _), hi.append (.cons _ _ .nil), hf2, wf_now hF0, hw1.mono fun x h => .tail _ (.tail _ h), hn⟩


/-- what the words' walk makes, by the font's rows -/
def wnode (fm : Int → Option (List Row3)) : Int → List Int → Bool → List Int → List Node
  | nc, np, nm, [] => [nodeOf nc np nm]
  | nc, np, nm, x :: rest => match ((fm nc).getD []).find? (fun r => decide (r.1 = x)) with
    | none => nodeOf nc np nm :: wnode fm x [x] false rest
    | some r => if r.2.1 = 0 then wnode fm r.2.2 (np ++ [x]) true rest else nodeOf nc np nm :: .krn (kernW r.2.2) :: wnode fm x [x] false rest
def wnodes (fm : Int → Option (List Row3)) : List Int → List Node
  | [] => []
  | x :: rest => wnode fm x [x] false rest
def FmOk (fm : Int → Option (List Row3)) : Prop := ∀ c R, fm c = some R → 0 ≤ c ∧ c ≤ 255 ∧ ∀ r ∈ R, RowOk r ∧ (r.2.1 = 0 → (fm r.2.2).isSome)
section
variable {Γ : Fm} {gl : List (Str × Value)} {cl : List (Str × Addr)} {ls : Locs} {led : Led}
theorem ints_lay : ∀ ns : List Int, PyData.canLayAll0 (ns.map PyData.int) = true
  | [] => rfl
  | _ :: r => ints_lay r
theorem ints_depth : ∀ ns : List Int, PyData.depthAll (ns.map PyData.int) ≤ 7
  | [] => Nat.zero_le _
  | a :: r => by
    have : PyData.depthAll ((a :: r).map PyData.int) = max (PyData.depth (.int a)) (PyData.depthAll (r.map PyData.int)) := rfl
    rw [this]
    exact Nat.max_le.mpr ⟨Nat.le_of_ble_eq_true rfl, ints_depth r⟩
theorem w_intsEq0 {l b : Addr} {vs : List Value} {n m : Nat} {ns : List Int} {Q : Value → Locs → Led → Prop} (al : At l (listOf (List.toArray vs) n) led) (ab : At b (listOf (List.toArray []) m) led) (hi : IntsAre vs ns)
    (h : Q (.bool (decide (ns = []))) ls led) : WP Γ gl cl ls led (compareOp .Eq (.ref l) (.ref b)) Q := by
  refine w_eqD (.list al (.ints hi)) (.list (ds := []) ab .nil) (ints_lay _) rfl ?_ ?_
  · have : (PyData.list (ns.map PyData.int)).depth = 1 + PyData.depthAll (ns.map PyData.int) ∨ (PyData.list (ns.map PyData.int)).depth = PyData.depthAll (ns.map PyData.int) + 1 := by first | exact .inl rfl | exact .inr rfl
    have := ints_depth ns
    lia
  · cases ns with
    | nil => exact h
    | cons y r => exact h
end
theorem code_ok {fm : Int → Option (List Row3)} (h : FmOk fm) {i : Int} (hi : (fm i).isSome) : 0 ≤ i ∧ i ≤ 255 := by
  obtain ⟨R, e⟩ := Option.isSome_iff_exists.mp hi
  exact ⟨(h i R e).1, (h i R e).2.1⟩
theorem lookR_lig {r : Row3} {v : Value} {own : List Ent} (h0 : r.2.1 = 0) (h : LookR (some r) v own) : ∃ a t1 t2, v = .ref a ∧ own = [(a, tupO [.int 1 t1, .int r.2.2 t2])] := by
  obtain ⟨a, t1, t2, e1, e2⟩ := h
  rw [if_pos h0, if_pos h0] at e2
  exact ⟨a, t1, t2, e1, e2⟩
theorem lookR_krn {r : Row3} {v : Value} {own : List Ent} (h0 : r.2.1 = 128) (h : LookR (some r) v own) : ∃ a t1 t2, v = .ref a ∧ own = [(a, tupO [.int 0 t1, .int (kernW r.2.2) t2])] := by
  obtain ⟨a, t1, t2, e1, e2⟩ := h
  rw [if_neg (by rw [h0]; decide), if_neg (by rw [h0]; decide)] at e2
  exact ⟨a, t1, t2, e1, e2⟩
theorem kernW_is (i : Int) : kernW i = 7001 ∨ kernW i = -3000 := by
  unfold kernW; split
  · exact .inl rfl
  · exact .inr rfl
inductive NInv (x ca w dw wl fd : Addr) (t : Tok) (fm : Int → Option (List Row3)) (c : List Ent) (cvs : List Value) (cn : Nat) (N : List Node) (k : Nat) (ls : Locs) (led : Led) : Prop
  | mk (nc : Int) (np : List Int) (nm : Bool) (rst : List Int) (nds : List Node) (going : Bool) (s : Int) (st : Tok) (y1 y2 y3 : Option Value) (es : List DictEntry) (n : Nat) (fl : List (Str × Value)) (wvs : List Value) (wn : Nat) (tn : Addr) (tc : Tok) (pa : Addr) (pws : List Value) (ts2 : List Ent) (fvs : List Value) (fn : Nat) (ns : List Ent)
    (e1 : ls = [((Str.ofString "font"), some (.ref x)), ((Str.ofString "codes"), some (.ref ca)), ((Str.ofString "left_edge"), some (.bool true)), ((Str.ofString "edge"), some (.int 256 t)), ((Str.ofString "word"), some (.ref w)), ((Str.ofString "steps"), some (.int s st)), ((Str.ofString "left"), y1), ((Str.ofString "right"), y2), ((Str.ofString "told"), y3)])
    (e2 : led = [[(w, instObj 363 dw)], [(dw, dictOf es n)], [(wl, listOf (List.toArray wvs) wn)], ts2, [(fd, listOf (List.toArray fvs) fn)], ns, c, [(ca, listOf cvs.toArray cn)]])
    (m1 : (tn, tupO [.int nc tc, .ref pa, .bool nm]) ∈ ts2) (m2 : (pa, tupO pws) ∈ ts2) (hi : IntsAre pws np) (hf : FAre es fl) (hF : WF fl x wl tn fd going) (hw : WaitAre ts2 wvs rst.reverse) (hn : NodesIn ns fvs nds)
    (g1 : going = true → nds ++ wnode fm nc np nm rst = N ∧ k = rst.length + 1 ∧ (rst.length : Int) ≤ s ∧ np ≠ []) (g2 : going = false → nds = N) (hnc : (fm nc).isSome) (hnp : ∀ i ∈ np, (fm i).isSome) (hr : ∀ i ∈ rst, (fm i).isSome) (b1 : np.length + rst.length ≤ 100) (b2 : going = true → nds.length + 2 * rst.length ≤ 200) : NInv x ca w dw wl fd t fm c cvs cn N k ls led
theorem NInv.el {x ca w dw wl fd : Addr} {t : Tok} {fm : Int → Option (List Row3)} {c : List Ent} {cvs : List Value} {cn : Nat} {N : List Node} {k : Nat} {ls : Locs} {led : Led} {G : Locs → Led → Prop} (h9 : NInv x ca w dw wl fd t fm c cvs cn N k ls led) (k9 : ∀ (nc : Int) (np : List Int) (nm : Bool) (rst : List Int) (nds : List Node) (going : Bool) (s : Int) (st : Tok) (y1 y2 y3 : Option Value) (es : List DictEntry) (n : Nat) (fl : List (Str × Value)) (wvs : List Value) (wn : Nat) (tn : Addr) (tc : Tok) (pa : Addr) (pws : List Value) (ts2 : List Ent) (fvs : List Value) (fn : Nat) (ns : List Ent) (m1 : (tn, tupO [.int nc tc, .ref pa, .bool nm]) ∈ ts2) (m2 : (pa, tupO pws) ∈ ts2) (hi : IntsAre pws np) (hf : FAre es fl) (hF : WF fl x wl tn fd going) (hw : WaitAre ts2 wvs rst.reverse) (hn : NodesIn ns fvs nds) (g1 : going = true → nds ++ wnode fm nc np nm rst = N ∧ k = rst.length + 1 ∧ (rst.length : Int) ≤ s ∧ np ≠ []) (g2 : going = false → nds = N) (hnc : (fm nc).isSome) (hnp : ∀ i ∈ np, (fm i).isSome) (hr : ∀ i ∈ rst, (fm i).isSome) (b1 : np.length + rst.length ≤ 100) (b2 : going = true → nds.length + 2 * rst.length ≤ 200), G ([((Str.ofString "font"), some (.ref x)), ((Str.ofString "codes"), some (.ref ca)), ((Str.ofString "left_edge"), some (.bool true)), ((Str.ofString "edge"), some (.int 256 t)), ((Str.ofString "word"), some (.ref w)), ((Str.ofString "steps"), some (.int s st)), ((Str.ofString "left"), y1), ((Str.ofString "right"), y2), ((Str.ofString "told"), y3)]) ([[(w, instObj 363 dw)], [(dw, dictOf es n)], [(wl, listOf (List.toArray wvs) wn)], ts2, [(fd, listOf (List.toArray fvs) fn)], ns, c, [(ca, listOf cvs.toArray cn)]])) : G ls led := by
  obtain ⟨nc, np, nm, rst, nds, going, s, st, y1, y2, y3, es, n, fl, wvs, wn, tn, tc, pa, pws, ts2, fvs, fn, ns, rfl, rfl, m1, m2, hi, hf, hF, hw, hn, g1, g2, hnc, hnp, hr, b1, b2⟩ := h9
  exact k9 nc np nm rst nds going s st y1 y2 y3 es n fl wvs wn tn tc pa pws ts2 fvs fn ns m1 m2 hi hf hF hw hn g1 g2 hnc hnp hr b1 b2
set_option maxHeartbeats 16000000 in
theorem nodes_spec {x dx dc tp kt ca : Addr} {pvs : List Value} {ts : List Ent} {fm : Int → Option (List Row3)} {c : List Ent} {cvs : List Value} {cn : Nat} {codes : List Int} {t : Tok} (hF : FontO x dx dc tp kt pvs ts fm c) (hfm : FmOk fm) (hv : IntsAre cvs codes) (hc : ∀ i ∈ codes, (fm i).isSome) (hz : codes.length ≤ 100) :
    Fn 9 395 [.ref x, .ref ca, .bool true, .int 256 t] [c, [(ca, listOf cvs.toArray cn)]] fun r fp => ∃ fd fvs fn ns, r = .ref fd ∧ NodesIn ns fvs (wnodes fm codes) ∧ fp = [[(fd, listOf (List.toArray fvs) fn)], ns, c, [(ca, listOf cvs.toArray cn)]] := by
  have hzv := hv.length
  refine letG ?_; intro G9
  obtain ⟨esF, nF, flF, _, _, _, _, _, ec, _, hflF, g1, g2, g3, ⟨_, g4⟩, ⟨_, g5⟩, g6, g7, -, -, -⟩ := id hF
  unfold G9; clear G9
  have mx : (x, instObj 259 dx) ∈ c := by rw [ec]; exact .head _
  have mdx : (dx, dictOf esF nF) ∈ c := by rw [ec]; exact .tail _ (.head _)
  clear ec
  refine fn_intro (binds := [((Str.ofString "font"), .ref x), ((Str.ofString "codes"), .ref ca), ((Str.ofString "left_edge"), .bool true), ((Str.ofString "edge"), .int 256 t)]) (gl' := [((Str.ofString "EDGE"), .int 256 321), ((Str.ofString "STEPS"), .int 20 702), ((Str.ofString "Word"), .ref 363), ((Str.ofString "len"), .builtin "len"), ((Str.ofString "look"), .ref 348), ((Str.ofString "pass_on"), .ref 381), ((Str.ofString "Kern"), .ref 336), ((Str.ofString "FONT_KERN"), .int 0 580), ((Str.ofString "put_between"), .ref 388)])
    (ls0 := [((Str.ofString "font"), some (.ref x)), ((Str.ofString "codes"), some (.ref ca)), ((Str.ofString "left_edge"), some (.bool true)), ((Str.ofString "edge"), some (.int 256 t)), ((Str.ofString "word"), none), ((Str.ofString "steps"), none), ((Str.ofString "left"), none), ((Str.ofString "right"), none), ((Str.ofString "told"), none)]) (H := ?_)
  intro Γ K hr hcm hK hN
  refine w_execs_cons <| w_If <| w_tCompare1 <| w_loc rfl <| w_List <| w_items_nil <| w_newList (by kdl_here) fun _ => ?_
  refine w_intsEq0 (by kcf_m) (by kcf_m) hv ?_
  cases codes with
  | nil =>
    rw [show decide (([] : List Int) = []) = true from rfl]
    refine w_truthyB <| ite_T <| w_execs_cons <| w_Return <| w_List <| w_items_nil <| w_newList (by kdl_here) fun _ => ?_
    refine seq_ret <| seq_ret ?_
    rename_i fd
    exact hK _ _ _ <| drop_ (l := [[(fd, listOf (List.toArray []) 0)], c, [(ca, listOf cvs.toArray cn)]]) (l2 := [[(fd, listOf (List.toArray []) 0)], [], c, [(ca, listOf cvs.toArray cn)]]) (by kpf_close) rfl ⟨fd, [], 0, [], rfl, .nil, rfl⟩
  | cons c0 rest =>
    rw [show decide ((c0 :: rest : List Int) = []) = false from rfl]
    rw [List.length_cons] at hzv hz
    refine w_truthyB <| ite_F <| w_execs_nil <| seq_next <| w_execs_cons <| w_Assign <| w_CallName <| w_glob rfl <| w_callK (by kd_p) ?_
    refine w_items_cons <| w_loc rfl <| w_items_cons <| w_loc rfl <| w_items_cons <| w_And <| w_loc rfl <| w_truthyB <| ite_T <| w_BoolOne <| w_Compare1 <| w_CallAttr <| w_loc rfl <| w_getM2 (by kcf_m) (by kcf_m) (by assumption) (by kd_p1) (by kd_in) ?_
    refine w_callK (by kd_p) ?_
    refine w_items_cons <| w_glob rfl <| w_items_nil ?_
    refine w_fn2_2 (starts_spec hF (.inl rfl)) (by kdl_here) (by kpf_close) ?_
    intro p u hp _
    obtain rfl := hp rfl
    refine w_int fun _ => w_ge <| w_items_cons <| w_loc rfl <| w_items_nil ?_
    refine w_callCls (fI := 360) (fun w dw => word_spec hv (by kdl_here)) (by kdl_here) (by intro p9; exact ⟨by k_dflt k_is, by k_dflt k_is, by k_dflt k_is⟩) (by kpf_close) ?_
    rintro w dw v fp' ⟨rfl, wl, fd, l, hW, rfl⟩
    refine ⟨rfl, ?_⟩
    refine letG ?_; intro G9
    obtain ⟨es, n, fl, wvs, wn, tn, tc, pa, pws, ts2, rfl, m1, m2, hi, hf, hWF, hw⟩ := hW
    unfold G9; clear G9
    refine w_store (by assumption) (by kpt_turns) ?_
    refine seq_next <| w_execs_cons <| w_Assign <| w_BinOp <| w_glob rfl <| w_BinOp <| w_CallName <| w_glob rfl <| w_callB <| w_items_cons <| w_loc rfl <| w_items_nil <| w_lenL (by kcf_m) (by kdl_here) fun _ => ?_
    refine w_int fun _ => w_add fun _ => w_mul (by first | exact .of_left (by decide) | exact .of_right (by decide)) fun _ => ?_
    refine w_store (by assumption) (by kpt_turns) ?_
    refine seq_next <| w_execs_cons ?_
    refine w_while2 (NInv x ca w dw wl fd t fm c cvs cn (wnodes fm (c0 :: rest))) (rest.length + 1) ?_ ?_
    · exact drop_ (l := [[(w, instObj 363 dw)], [(dw, dictOf es n)], [(wl, listOf (List.toArray wvs) wn)], ts2, [(fd, listOf (List.toArray []) 0)], c, [(ca, listOf cvs.toArray cn)]])
        (l2 := [[(w, instObj 363 dw)], [(dw, dictOf es n)], [(wl, listOf (List.toArray wvs) wn)], ts2, [(fd, listOf (List.toArray []) 0)], [], c, [(ca, listOf cvs.toArray cn)]]) (by kpf_close) rfl
        ⟨c0, [c0], false, rest, [], true, _, _, none, none, none, es, n, fl, wvs, wn, tn, tc, pa, pws, ts2, [], 0, [], rfl, rfl, m1, m2, hi, hf, hWF, hw, .nil, (fun _ => ⟨rfl, rfl, by lia, by simp⟩), (fun h => nomatch h), hc _ (.head _), (fun i h => by rw [List.mem_singleton.mp h]; exact hc _ (.head _)), (fun i h => hc _ (.tail _ h)), by rw [List.length_singleton]; lia, (fun _ => by rw [List.length_nil]; lia)⟩
    · clear hf hWF hw hi m1 m2
      rintro k ls led K1 hI9
      apply hI9.el; intro nc np nm rst nds going s st y1 y2 y3 es n fl wvs wn tn tc pa pws ts2 fvs fn ns m1 m2 hi hf hWF hw hnd hg1 hg2 hnc hnp hrst hb1 hb2
      rintro hK1 - -
      have hWF0 := hWF
      refine letG ?_; intro G9
      obtain ⟨f1, f2, f3, ⟨te, f4⟩, f5, f6, f7, f8, f9⟩ := hWF
      unfold G9; clear G9
      refine w_tValue <| w_Attr <| w_loc rfl <| w_getOwn (attr := none) (by kcf_m) (by kcf_m) (by assumption) (by kd_p1) (by exact rfl) (by kd_in) ?_
      refine w_truthyB ?_
      cases going with
      | false =>
        refine ite_F <| seq_next <| w_execs_cons <| w_Return <| w_Attr <| w_loc rfl <| w_getOwn (attr := none) (by kcf_m) (by kcf_m) (by assumption) (by kd_p1) (by exact rfl) (by kd_in) ?_
        refine seq_ret ?_
        exact hK _ _ _ <| drop_ (l := [[(fd, listOf (List.toArray fvs) fn)], ns, c, [(ca, listOf cvs.toArray cn)]]) (by kpf_close) rfl ⟨fd, fvs, fn, ns, rfl, by rw [← hg2 rfl]; exact hnd, rfl⟩
      | true =>
        refine letG ?_; intro G9
        obtain ⟨hN1, rfl, hs, hne⟩ := hg1 rfl
        unfold G9; clear G9
        replace hb2 := hb2 rfl
        clear hg1 hg2
        obtain ⟨R, hR⟩ := Option.isSome_iff_exists.mp hnc
        refine letG ?_; intro G9
        obtain ⟨hn0, hn1, hrows⟩ := hfm nc R hR
        unfold G9; clear G9
        refine ite_T <| w_execs_cons <| w_Assign <| w_IfExp <| w_tCompare1 <| w_Attr <| w_loc rfl <| w_getOwn (attr := none) (by kcf_m) (by kcf_m) (by assumption) (by kd_p1) (by exact rfl) (by kd_in) ?_
        refine w_none <| w_isNoneR <| w_truthyB <| ite_F <| w_Subscript <| w_Attr <| w_loc rfl <| w_getOwn (attr := none) (by kcf_m) (by kcf_m) (by assumption) (by kd_p1) (by exact rfl) (by kd_in) ?_
        refine w_int fun _ => w_subT (by kcf_m) (by decide) (by decide) (by exact rfl) ?_
        refine w_store (by assumption) (by kpt_turns) ?_
        refine seq_next <| w_execs_cons <| w_Assign <| w_IfExp <| w_tCompare1 <| w_Attr <| w_loc rfl <| w_getOwn (attr := none) (by kcf_m) (by kcf_m) (by assumption) (by kd_p1) (by exact rfl) (by kd_in) ?_
        refine w_List <| w_items_nil <| w_newList (by kdl_here) fun _ => ?_
        refine w_waitEq (by kcf_m) (by kcf_m) hw (fun x h => by simp [h]) ?_
        cases rst with
        | nil =>
          rw [show decide (([] : List Int).reverse = []) = true from rfl]
          refine w_truthyB <| ite_T <| w_Attr <| w_loc rfl <| w_getOwn (attr := none) (by kcf_m) (by kcf_m) (by assumption) (by kd_p1) (by exact rfl) (by kd_in) ?_
          refine w_store (by assumption) (by kpt_turns) ?_
          refine seq_next <| w_execs_cons <| w_Assign <| w_CallName <| w_glob rfl <| w_callK (by kd_p) ?_
          refine w_items_cons <| w_loc rfl <| w_items_cons <| w_loc rfl <| w_items_cons <| w_loc rfl <| w_items_nil ?_
          refine w_fn (look_spec hF (by kdl_here) hR (fun r hr => (hrows r hr).1)) (by kdl_here) (by kpf_close) ?_
          rintro v fp' ⟨own, hLk, rfl⟩
          rw [find_no fun q hq => (hrows q hq).1.1] at hLk
          obtain rfl : v = .none := hLk
          refine w_store (by assumption) (by kpt_turns) ?_
          refine seq_next <| w_execs_cons <| w_If <| w_tCompare1 <| w_loc rfl <| w_none <| w_isNoneN <| w_truthyB <| ite_T <| w_execs_cons <| w_Expr <| w_CallName <| w_glob rfl <| w_callK (by kd_p) ?_
          refine w_items_cons <| w_loc rfl <| w_items_nil ?_
          refine w_fn (pass_on_spec (l := [[(w, instObj 363 dw)], [(dw, dictOf es n)], [(wl, listOf (List.toArray wvs) wn)], ts2, [(fd, listOf (List.toArray fvs) fn)], ns]) ⟨_, _, _, _, _, _, _, _, _, _, _, _, _, rfl, m1, m2, hi, hf, hWF0, hw, hnd⟩ hn0 hn1 (fun i h => code_ok hfm (hnp i h)) (by kdl_here) (by kdl_here) (by decide)) (by kdl_here) (by kpf_close) ?_
          clear m1 m2 hi hf hWF0 hw hnd f1 f2 f3 f4 f5 f6 f7 f8 f9
          rintro v fp' ⟨rfl, es, n, fl, wvs, wn, tn, tc, pa, pws, ts2, fvs, fn, ns, rfl, m1, m2, hi, hf, hWF, hw, hnd⟩
          refine none_and <| seq_next <| w_execs_nil <| seq_next <| w_execs_nil ?_
          exact hK1 _ _ _ trivial ⟨0, Nat.succ_pos _, drop_ (l := [[(w, instObj 363 dw)], [(dw, dictOf es n)], [(wl, listOf (List.toArray wvs) wn)], ts2, [(fd, listOf (List.toArray fvs) fn)], ns, c, [(ca, listOf cvs.toArray cn)]]) (by kpf_close) rfl
            ⟨_, _, _, _, _, _, _, _, _, _, _, es, n, fl, wvs, wn, tn, tc, pa, pws, ts2, fvs, fn, ns, rfl, rfl, m1, m2, hi, hf, hWF, hw, hnd, (fun h => nomatch h), (fun _ => hN1), hnc, hnp, hrst, hb1, (fun h => nomatch h)⟩⟩
        | cons x1 rst =>
          rw [show decide ((x1 :: rst).reverse = []) = false from decide_eq_false (by simp)]
          have hwp := hw
          rw [List.reverse_cons] at hwp
          refine letG ?_; intro G9
          obtain ⟨wvs', v, rfl, hw1, a, ta, pa2, t2, rfl, k1, k2⟩ := hwp.pop
          unfold G9; clear G9
          have hzw := hw1.length
          rw [List.length_reverse] at hzw
          rw [List.length_cons] at hb1 hb2 hs
          have hx1 := hrst x1 (.head _)
          have hrst' : ∀ i ∈ rst, (fm i).isSome := fun i h => hrst i (.tail _ h)
          refine w_truthyB <| ite_F <| w_Subscript <| w_Subscript <| w_Attr <| w_loc rfl <| w_getOwn (attr := none) (by kcf_m) (by kcf_m) (by assumption) (by kd_p1) (by exact rfl) (by kd_in) ?_
          refine w_UnaryOp <| w_int fun _ => w_neg fun _ => ?_
          refine w_subLast (by kcf_m) (by kdl_here) ?_ (by with_unfolding_all rfl)
          refine w_int fun _ => w_subT (by kcf_m) (by decide) (by decide) (by exact rfl) ?_
          refine w_store (by assumption) (by kpt_turns) ?_
          refine seq_next <| w_execs_cons <| w_Assign <| w_CallName <| w_glob rfl <| w_callK (by kd_p) ?_
          refine w_items_cons <| w_loc rfl <| w_items_cons <| w_loc rfl <| w_items_cons <| w_loc rfl <| w_items_nil ?_
          refine w_fn (look_spec hF (by kdl_here) hR (fun r hr => (hrows r hr).1)) (by kdl_here) (by kpf_close) ?_
          rintro v fp' ⟨own, hLk, rfl⟩
          rw [wnode, hR, Option.getD_some] at hN1
          cases hfind : R.find? (fun r => decide (r.1 = x1)) with
          | none =>
            rw [hfind] at hN1 hLk
            obtain rfl : v = .none := hLk
            refine w_store (by assumption) (by kpt_turns) ?_
            refine seq_next <| w_execs_cons <| w_If <| w_tCompare1 <| w_loc rfl <| w_none <| w_isNoneN <| w_truthyB <| ite_T <| w_execs_cons <| w_Expr <| w_CallName <| w_glob rfl <| w_callK (by kd_p) ?_
            refine w_items_cons <| w_loc rfl <| w_items_nil ?_
            refine w_fn (pass_on_spec (l := [[(w, instObj 363 dw)], [(dw, dictOf es n)], [(wl, listOf (List.toArray (wvs' ++ [.ref a])) wn)], ts2, [(fd, listOf (List.toArray fvs) fn)], ns]) ⟨_, _, _, _, _, _, _, _, _, _, _, _, _, rfl, m1, m2, hi, hf, hWF0, hw, hnd⟩ hn0 hn1 (fun i h => code_ok hfm (hnp i h)) (by kdl_here) (by kdl_here) (by rw [List.length_cons]; lia)) (by kdl_here) (by kpf_close) ?_
            clear m1 m2 hi hf hWF0 hw hnd f1 f2 f3 f4 f5 f6 f7 f8 f9
            rintro v fp' ⟨rfl, es, n, fl, wvs, wn, tn, tc, pa, pws, ts2, fvs, fn, ns, rfl, m1, m2, hi, hf, hWF, hw, hnd⟩
            refine none_and <| seq_next <| w_execs_nil <| seq_next <| w_execs_nil ?_
            exact hK1 _ _ _ trivial ⟨rst.length + 1, Nat.lt_succ_self _, drop_ (l := [[(w, instObj 363 dw)], [(dw, dictOf es n)], [(wl, listOf (List.toArray wvs) wn)], ts2, [(fd, listOf (List.toArray fvs) fn)], ns, c, [(ca, listOf cvs.toArray cn)]]) (by kpf_close) rfl
              ⟨_, _, _, _, _, _, _, _, _, _, _, es, n, fl, wvs, wn, tn, tc, pa, pws, ts2, fvs, fn, ns, rfl, rfl, m1, m2, hi, hf, hWF, hw, hnd, (fun _ => ⟨by rw [List.append_assoc]; exact hN1, rfl, by lia, by simp⟩), (fun h => nomatch h), hx1, (fun i h => by rw [List.mem_singleton.mp h]; exact hx1), hrst', by rw [List.length_singleton]; lia, (fun _ => by rw [List.length_append, List.length_singleton]; lia)⟩⟩
          | some r =>
            rw [hfind] at hN1 hLk
            have hro := hrows r (List.mem_of_find?_eq_some hfind)
            rcases hro.1.2 with h0 | ⟨h0, -⟩
            · refine letG ?_; intro G9
              obtain ⟨la, t1, t3, rfl, rfl⟩ := lookR_lig h0 hLk
              unfold G9; clear G9
              have hN2 : nds ++ wnode fm r.2.2 (np ++ [x1]) true rst = wnodes fm (c0 :: rest) := by rw [← hN1]; dsimp only; rw [if_pos h0]
              refine w_store (by assumption) (by kpt_turns) ?_
              refine seq_next <| w_execs_cons <| w_If <| w_tCompare1 <| w_loc rfl <| w_none <| w_isNoneR <| w_truthyB <| ite_F <| w_execs_cons <| w_If <| w_tCompare1 <| w_Subscript <| w_loc rfl <| w_int fun _ => w_subT (by kcf_m) (by decide) (by decide) (by exact rfl) ?_
              refine w_int fun _ => w_eq <| w_truthyB ?_
              refine ite_D (fun h => absurd h (by decide)) (fun _ => ?_)
              refine w_execs_cons <| w_If <| w_tCompare1 <| w_loc rfl <| w_int fun _ => w_eq <| w_truthyB ?_
              refine ite_D (fun h => absurd h (by kdl_here)) (fun _ => ?_)
              refine w_execs_cons <| w_Assign <| w_BinOp <| w_loc rfl <| w_int fun _ => w_sub fun _ => w_store (by assumption) (by kpt_turns) ?_
              refine seq_next <| w_execs_cons <| w_Expr <| w_CallName <| w_glob rfl <| w_callK (by kd_p) ?_
              refine w_items_cons <| w_loc rfl <| w_items_cons <| w_BinOp <| w_Subscript <| w_loc rfl <| w_int fun _ => w_subT (by kcf_m) (by decide) (by decide) (by exact rfl) ?_
              refine w_int fun _ => w_sub fun _ => w_items_cons <| w_Subscript <| w_loc rfl <| w_int fun _ => w_subT (by kcf_m) (by decide) (by decide) (by exact rfl) ?_
              refine w_items_nil ?_
              refine w_fn (put_spec (l := [[(w, instObj 363 dw)], [(dw, dictOf es n)], [(wl, listOf (List.toArray (wvs' ++ [.ref a])) wn)], ts2, [(fd, listOf (List.toArray fvs) fn)], ns]) ⟨_, _, _, _, _, _, _, _, _, _, _, _, _, rfl, m1, m2, hi, hf, hWF0, hw, hnd⟩ (by kdl_here) (by kdl_here) hne) (by kdl_here) (by kpf_close) ?_
              clear m1 m2 hi hf hWF0 hw hnd f1 f2 f3 f4 f5 f6 f7 f8 f9
              rintro v fp' ⟨rfl, es, n, fl, wvs, wn, tn, tc, pa, pws, ts2, fvs, fn, ns, rfl, m1, m2, hi, hf, hWF, hw, hnd⟩
              refine none_and <| seq_next <| w_execs_nil <| seq_next <| w_execs_nil <| seq_next <| w_execs_nil <| seq_next <| w_execs_nil ?_
              exact hK1 _ _ _ trivial ⟨rst.length + 1, Nat.lt_succ_self _, drop_ (l := [[(w, instObj 363 dw)], [(dw, dictOf es n)], [(wl, listOf (List.toArray wvs) wn)], ts2, [(fd, listOf (List.toArray fvs) fn)], ns, c, [(ca, listOf cvs.toArray cn)]]) (by kpf_close) rfl
                ⟨_, _, _, _, _, _, _, _, _, _, _, es, n, fl, wvs, wn, tn, tc, pa, pws, ts2, fvs, fn, ns, rfl, rfl, m1, m2, hi, hf, hWF, hw, hnd, (fun _ => ⟨hN2, rfl, by lia, by simp⟩), (fun h => nomatch h), hro.2 h0, (fun i h => (List.mem_append.mp h).elim (hnp i) fun h => by rw [List.mem_singleton.mp h]; exact hx1), hrst', by rw [List.length_append, List.length_singleton]; lia, (fun _ => by lia)⟩⟩
            · refine letG ?_; intro G9
              obtain ⟨la, t1, t3, rfl, rfl⟩ := lookR_krn h0 hLk
              unfold G9; clear G9
              have hN2 : nds ++ (nodeOf nc np nm :: .krn (kernW r.2.2) :: wnode fm x1 [x1] false rst) = wnodes fm (c0 :: rest) := by rw [← hN1]; dsimp only; rw [if_neg (by rw [h0]; decide)]
              refine w_store (by assumption) (by kpt_turns) ?_
              refine seq_next <| w_execs_cons <| w_If <| w_tCompare1 <| w_loc rfl <| w_none <| w_isNoneR <| w_truthyB <| ite_F <| w_execs_cons <| w_If <| w_tCompare1 <| w_Subscript <| w_loc rfl <| w_int fun _ => w_subT (by kcf_m) (by decide) (by decide) (by exact rfl) ?_
              refine w_int fun _ => w_eq <| w_truthyB ?_
              refine ite_D (fun _ => ?_) (fun h => absurd rfl h)
              refine w_execs_cons <| w_Expr <| w_CallName <| w_glob rfl <| w_callK (by kd_p) ?_
              refine w_items_cons <| w_loc rfl <| w_items_nil ?_
              refine w_fn (pass_on_spec (l := [[(w, instObj 363 dw)], [(dw, dictOf es n)], [(wl, listOf (List.toArray (wvs' ++ [.ref a])) wn)], ts2, [(fd, listOf (List.toArray fvs) fn)], ns]) ⟨_, _, _, _, _, _, _, _, _, _, _, _, _, rfl, m1, m2, hi, hf, hWF0, hw, hnd⟩ hn0 hn1 (fun i h => code_ok hfm (hnp i h)) (by kdl_here) (by kdl_here) (by rw [List.length_cons]; lia)) (by kdl_here) (by kpf_close) ?_
              clear m1 m2 hi hf hWF0 hw hnd f1 f2 f3 f4 f5 f6 f7 f8 f9
              rintro v fp' ⟨rfl, es, n, fl, wvs, wn, tn, tc, pa, pws, ts2, fvs, fn, ns, rfl, m1, m2, hi, hf, hWF, hw, hnd⟩
              have hWF0 := hWF
              refine letG ?_; intro G9
              obtain ⟨f1, f2, f3, ⟨te, f4⟩, f5, f6, f7, f8, f9⟩ := hWF
              unfold G9; clear G9
              have hnl := hnd.length
              rw [List.length_append, List.length_singleton] at hnl
              refine none_and <| seq_next <| w_execs_cons <| w_Expr <| w_CallAttr <| w_Attr <| w_loc rfl <| w_getOwn (attr := none) (by kcf_m) (by kcf_m) (by assumption) (by kd_p1) (by exact rfl) (by kd_in) ?_
              refine w_meth (by kcf_m) PySem.F.slot_list_append PySem.F.type_list_append ?_
              refine w_callBm <| w_items_cons <| w_CallName <| w_glob rfl <| w_callK (by kd_p) ?_
              refine w_items_cons <| w_Subscript <| w_loc rfl <| w_int fun _ => w_subT (by kcf_m) (by decide) (by decide) (by exact rfl) ?_
              refine w_items_cons <| w_glob rfl <| w_items_nil ?_
              refine w_callCls (fI := 333) (fp := []) (fun x dx => kern_spec (kernW_is _)) (by kdl_here) (by intro p9; exact ⟨by k_dflt k_is, by k_dflt k_is, by k_dflt k_is⟩) (by kpf_close) ?_
              rintro kx kdx v fp' ⟨rfl, own, hnode, rfl⟩
              refine ⟨rfl, ?_⟩
              refine w_items_nil <| w_isAppend <| w_append (by kcj_m) (by kdl_here) ?_
              refine none_and <| seq_next <| w_execs_nil <| seq_next <| w_execs_nil <| seq_next <| w_execs_nil ?_
              exact hK1 _ _ _ trivial ⟨rst.length + 1, Nat.lt_succ_self _, drop_ (l := [[(w, instObj 363 dw)], [(dw, dictOf es n)], [(wl, listOf (List.toArray wvs) wn)], ts2, [(fd, listOf (List.toArray (fvs ++ [.ref kx])) (fn + 1))], own, ns, c, [(ca, listOf cvs.toArray cn)]])
                (l2 := [[(w, instObj 363 dw)], [(dw, dictOf es n)], [(wl, listOf (List.toArray wvs) wn)], ts2, [(fd, listOf (List.toArray (fvs ++ [.ref kx])) (fn + 1))], own ++ ns, c, [(ca, listOf cvs.toArray cn)]]) (by kpf_close) (by simp)
                ⟨_, _, _, _, _, _, _, _, _, _, _, es, n, fl, wvs, wn, tn, tc, pa, pws, ts2, _, _, own ++ ns, rfl, rfl, m1, m2, hi, hf, hWF0, hw, .snoc (hnd.mono fun x h => List.mem_append_right _ h) hnode (fun x h => List.mem_append_left _ h), (fun _ => ⟨by rw [List.append_assoc, List.append_assoc]; exact hN2, rfl, by lia, by simp⟩), (fun h => nomatch h), hx1, (fun i h => by rw [List.mem_singleton.mp h]; exact hx1), hrst', by rw [List.length_singleton]; lia, (fun _ => by rw [List.length_append, List.length_append, List.length_singleton, List.length_singleton]; lia)⟩⟩


theorem wnode_len (fm : Int → Option (List Row3)) : ∀ (rest : List Int) (nc : Int) (np : List Int) (nm : Bool), (wnode fm nc np nm rest).length ≤ 2 * rest.length + 1
  | [], nc, np, nm => by rw [wnode]; simp
  | x :: rest, nc, np, nm => by
    rw [wnode]
    have h1 := wnode_len fm rest x [x] false
    split
    · simp only [List.length_cons]; lia
    · rename_i r _
      have h2 := wnode_len fm rest r.2.2 (np ++ [x]) true
      split <;> simp only [List.length_cons] <;> lia
theorem wnodes_len (fm : Int → Option (List Row3)) (codes : List Int) : (wnodes fm codes).length ≤ 2 * codes.length := by
  cases codes with
  | nil => simp [wnodes]
  | cons x rest =>
    have := wnode_len fm rest x [x] false
    rw [wnodes, List.length_cons]; lia
set_option maxHeartbeats 8000000 in
theorem run_spec {x dx dc tp kt ca : Addr} {pvs : List Value} {ts : List Ent} {fm : Int → Option (List Row3)} {c : List Ent} {cvs : List Value} {cn : Nat} {codes : List Int} (hF : FontO x dx dc tp kt pvs ts fm c) (hfm : FmOk fm) (hv : IntsAre cvs codes) (hc : ∀ i ∈ codes, (fm i).isSome) (hz : codes.length ≤ 100) :
    Fn 10 403 [.ref x, .ref ca] [c, [(ca, listOf cvs.toArray cn)]] fun r fp => ∃ fd fvs fn ns, r = .ref fd ∧ NodesIn ns fvs (wnodes fm codes) ∧ fp = [[(fd, listOf (List.toArray fvs) fn)], ns, c, [(ca, listOf cvs.toArray cn)]] := by
  have hzv := hv.length
  refine letG ?_; intro G9
  obtain ⟨esF, nF, flF, _, _, _, _, _, ec, _, hflF, g1, g2, g3, ⟨_, g4⟩, ⟨_, g5⟩, g6, g7, -, -, -⟩ := id hF
  unfold G9; clear G9
  have mx : (x, instObj 259 dx) ∈ c := by rw [ec]; exact .head _
  have mdx : (dx, dictOf esF nF) ∈ c := by rw [ec]; exact .tail _ (.head _)
  clear ec
  refine fn_intro (binds := [((Str.ofString "font"), .ref x), ((Str.ofString "codes"), .ref ca), ((Str.ofString "left_edge"), .bool true), ((Str.ofString "right_edge"), .bool true)]) (gl' := [((Str.ofString "EDGE"), .int 256 321), ((Str.ofString "is_whole"), .ref 97), ((Str.ofString "word_nodes"), .ref 395)])
    (ls0 := [((Str.ofString "font"), some (.ref x)), ((Str.ofString "codes"), some (.ref ca)), ((Str.ofString "left_edge"), some (.bool true)), ((Str.ofString "right_edge"), some (.bool true)), ((Str.ofString "code"), none), ((Str.ofString "found"), none), ((Str.ofString "piece"), none), ((Str.ofString "has_left"), none)]) (H := ?_)
  intro Γ K hr hcm hK hN
  refine w_execs_cons ?_
  refine w_for4 ?_
  refine w_loc rfl ?_
  refine ⟨codes.length, _, _, fun _ ls led => ∃ y, ls = [((Str.ofString "font"), some (.ref x)), ((Str.ofString "codes"), some (.ref ca)), ((Str.ofString "left_edge"), some (.bool true)), ((Str.ofString "right_edge"), some (.bool true)), ((Str.ofString "code"), y), ((Str.ofString "found"), none), ((Str.ofString "piece"), none), ((Str.ofString "has_left"), none)] ∧ led = [c, [(ca, listOf cvs.toArray cn)]], _,
    IterOf.three (hzv ▸ iter_list (by kcf_m)) (by intro _ _; rfl), drop_ (l := [c, [(ca, listOf cvs.toArray cn)]]) (by kpf_close) rfl ⟨_, rfl, rfl⟩, ?_, ?_, ?_⟩
  · rintro i ls led ⟨y, rfl, rfl⟩; exact by kcf_m
  · rintro i v own ls led K1 hi ⟨hv1, rfl⟩ ⟨y, rfl, rfl⟩ hK1 -
    refine letG ?_; intro G9
    obtain ⟨q, tq, rfl, hq⟩ := ints_all hv hv1
    unfold G9; clear G9
    have hq := code_ok hfm (hc q (List.mem_of_getElem? hq))
    refine w_assignName <| w_store (by assumption) (by kpt_turns) ?_
    refine w_execs_cons <| w_If <| w_tNot <| w_tValue <| w_CallName <| w_glob rfl <| w_callK (by kd_p) ?_
    refine w_items_cons <| w_loc rfl <| w_items_cons <| w_int fun _ => w_items_cons <| w_int fun _ => w_items_nil ?_
    refine w_fn0_0 is_whole_spec (by kdl_here) (by kpf_close) ?_
    rw [show decide (0 ≤ q ∧ q ≤ 255) = true from decide_eq_true hq]
    refine w_truthyB <| ite_nT <| w_execs_nil <| seq_next <| w_execs_nil ?_
    exact hK1 _ _ _ trivial <| drop_ (l := [c, [(ca, listOf cvs.toArray cn)]]) (by kpf_close) rfl ⟨_, rfl, rfl⟩
  · rintro ls led ⟨y, rfl, rfl⟩
    refine seq_next <| w_execs_cons <| w_Assign <| w_List <| w_items_nil <| w_newList (by kdl_here) fun _ => ?_
    refine w_store (by assumption) (by kpt_turns) ?_
    refine seq_next <| w_execs_cons <| w_Assign <| w_List <| w_items_nil <| w_newList (by kdl_here) fun _ => ?_
    refine w_store (by assumption) (by kpt_turns) ?_
    refine seq_next <| w_execs_cons <| w_Assign <| w_loc rfl <| w_store (by assumption) (by kpt_turns) ?_
    refine seq_next <| w_execs_cons ?_
    refine w_for4 ?_
    refine w_loc rfl ?_
    rename_i fd pd
    refine ⟨codes.length, _, _, fun i ls led => ∃ y pn, ls = [((Str.ofString "font"), some (.ref x)), ((Str.ofString "codes"), some (.ref ca)), ((Str.ofString "left_edge"), some (.bool true)), ((Str.ofString "right_edge"), some (.bool true)), ((Str.ofString "code"), y), ((Str.ofString "found"), some (.ref fd)), ((Str.ofString "piece"), some (.ref pd)), ((Str.ofString "has_left"), some (.bool true))] ∧ led = [[(fd, listOf (List.toArray []) 0)], [(pd, listOf (List.toArray (cvs.take i)) pn)], c, [(ca, listOf cvs.toArray cn)]], _,
      IterOf.three (hzv ▸ iter_list (by kcf_m)) (by intro _ _; rfl), drop_ (l := [[(fd, listOf (List.toArray []) 0)], [(pd, listOf (List.toArray []) 0)], c, [(ca, listOf cvs.toArray cn)]]) (by kpf_close) rfl ⟨_, _, rfl, rfl⟩, ?_, ?_, ?_⟩
    · rintro i ls led ⟨y, pn, rfl, rfl⟩; exact by kcf_m
    · rintro i v own ls led K1 hi ⟨hv1, rfl⟩ ⟨y, pn, rfl, rfl⟩ hK1 -
      refine letG ?_; intro G9
      obtain ⟨q, tq, rfl, hq⟩ := ints_all hv hv1
      unfold G9; clear G9
      have hq := hc q (List.mem_of_getElem? hq)
      refine w_assignName <| w_store (by assumption) (by kpt_turns) ?_
      refine w_execs_cons <| w_If <| w_tValue <| w_CallAttr <| w_loc rfl <| w_getM2 (by kcf_m) (by kcf_m) (by assumption) (by kd_p1) (by kd_in) ?_
      refine w_callK (by kd_p) ?_
      refine w_items_cons <| w_loc rfl <| w_items_nil ?_
      refine w_fn0_0 (has_spec hF) (by kdl_here) (by kpf_close) ?_
      rw [hq]
      refine w_truthyB <| ite_T <| w_execs_cons <| w_Expr <| w_CallAttr <| w_loc rfl <| w_meth (by kcf_m) PySem.F.slot_list_append PySem.F.type_list_append ?_
      refine w_callBm <| w_items_cons <| w_loc rfl <| w_items_nil <| w_isAppend <| w_append (by kcj_m) (by kdl_here) ?_
      refine none_and <| seq_next <| w_execs_cons <| w_Continue <| seq_cont <| seq_cont ?_
      exact hK1 _ _ _ trivial <| drop_ (l := [[(fd, listOf (List.toArray []) 0)], [(pd, listOf (List.toArray (cvs.take i ++ [.int q tq])) (pn + 1))], c, [(ca, listOf cvs.toArray cn)]]) (by kpf_close) rfl ⟨_, _, rfl, by rw [List.take_add_one, hv1]; rfl⟩
    · rintro ls led ⟨y, pn, rfl, rfl⟩
      rw [← hzv, List.take_length]
      refine seq_next <| w_execs_cons <| w_Expr <| w_CallAttr <| w_loc rfl <| w_meth (by kcf_m) PySem.F.slot_list_extend PySem.F.type_list_extend ?_
      refine w_callBm <| w_items_cons <| w_CallName <| w_glob rfl <| w_callK (by kd_p) ?_
      refine w_items_cons <| w_loc rfl <| w_items_cons <| w_loc rfl <| w_items_cons <| w_loc rfl <| w_items_cons <| w_IfExp <| w_tValue <| w_loc rfl <| w_truthyB <| ite_T <| w_Attr <| w_loc rfl <| w_getOwn (attr := none) (by kcf_m) (by kcf_m) (by assumption) (by kd_p1) (by exact rfl) (by kd_in) ?_
      refine w_items_nil ?_
      refine w_fn4_1 (nodes_spec hF hfm hv hc hz) (by kdl_here) (by kpf_close) ?_
      intro rd fvs fn ns hnd
      refine w_items_nil ?_
      refine w_extend (its := []) (ys := fvs) (by kcf_m) (by kcf_m) (by have := hnd.length; have := wnodes_len fm codes; simp only [List.length_nil]; lia) fun n' => ⟨_, by kcj_m, ?_⟩
      refine none_and <| seq_next <| w_execs_cons <| w_Return <| w_loc rfl <| seq_ret ?_
      exact hK _ _ _ <| drop_ (l := [[(fd, listOf (List.toArray fvs) n')], ns, c, [(ca, listOf cvs.toArray cn)]]) (by kpf_close) rfl ⟨fd, fvs, n', ns, rfl, hnd, rfl⟩


def nodeD : Node → PyData
  | .chr c => .tuple [.int 0, .int c]
  | .lig c ps => .tuple [.int 1, .int c, .tuple (ps.map .int), .bool false, .bool false]
  | .krn w => .tuple [.int 5, .int w, .int 0]
theorem NodesIn.get {ns : List Ent} {vs : List Value} {nds : List Node} (h : NodesIn ns vs nds) {i : Nat} {v : Value} (e : vs[i]? = some v) : ∃ nd own, nds[i]? = some nd ∧ NodeC v nd own ∧ ∀ x ∈ own, x ∈ ns := by
  induction h with
  | nil => simp at e
  | @snoc vs nds v' nd own h h2 h3 ih =>
    have hl := h.length
    by_cases hi : i < vs.length
    · rw [List.getElem?_append_left hi] at e
      obtain ⟨nd', own', a, b, c⟩ := ih e
      exact ⟨nd', own', by rw [List.getElem?_append_left (hl ▸ hi)]; exact a, b, c⟩
    · have hlt := (List.getElem?_eq_some_iff.mp e).1
      rw [List.length_append, List.length_singleton] at hlt
      have : i = vs.length := by lia
      subst this
      rw [List.getElem?_append_right (Nat.le_refl _)] at e
      simp at e
      subst e
      exact ⟨nd, own, by rw [hl, List.getElem?_append_right (Nat.le_refl _)]; simp, h2, h3⟩
inductive ToldC (d : Addr) (nds : List Node) (c : List Ent) : Prop
  | mk (vs : List Value) (n : Nat) (ts : List Ent) (e : c = (d, listOf (List.toArray vs) n) :: ts) (h : Rds [ts] vs (nds.map nodeD)) (hz : vs.length = nds.length) : ToldC d nds c
inductive TInv (x ca d rd : Addr) (c : List Ent) (cvs : List Value) (cn : Nat) (fvs : List Value) (fn : Nat) (ns : List Ent) (nds : List Node) (i : Nat) (ls : Locs) (led : Led) : Prop
  | mk (y : Option Value) (tvs : List Value) (tn : Nat) (ts : List Ent) (e1 : ls = [((Str.ofString "font"), some (.ref x)), ((Str.ofString "text"), some (.ref ca)), ((Str.ofString "found"), some (.ref d)), ((Str.ofString "node"), y)]) (e2 : led = [[(d, listOf (List.toArray tvs) tn)], ts, [(rd, listOf (List.toArray fvs) fn)], ns, c, [(ca, listOf cvs.toArray cn)]])
    (h : Rds [ts, ns] tvs ((nds.take i).map nodeD)) (hz : tvs.length = (nds.take i).length) : TInv x ca d rd c cvs cn fvs fn ns nds i ls led
theorem TInv.el {x ca d rd : Addr} {c : List Ent} {cvs : List Value} {cn : Nat} {fvs : List Value} {fn : Nat} {ns : List Ent} {nds : List Node} {i : Nat} {ls : Locs} {led : Led} {G : Locs → Led → Prop} (h9 : TInv x ca d rd c cvs cn fvs fn ns nds i ls led) (k9 : ∀ (y : Option Value) (tvs : List Value) (tn : Nat) (ts : List Ent) (h : Rds [ts, ns] tvs ((nds.take i).map nodeD)) (hz : tvs.length = (nds.take i).length), G ([((Str.ofString "font"), some (.ref x)), ((Str.ofString "text"), some (.ref ca)), ((Str.ofString "found"), some (.ref d)), ((Str.ofString "node"), y)]) ([[(d, listOf (List.toArray tvs) tn)], ts, [(rd, listOf (List.toArray fvs) fn)], ns, c, [(ca, listOf cvs.toArray cn)]])) : G ls led := by
  obtain ⟨y, tvs, tn, ts, rfl, rfl, h, hz⟩ := h9
  exact k9 y tvs tn ts h hz
set_option maxHeartbeats 8000000 in
theorem told_spec {x dx dc tp kt ca : Addr} {pvs : List Value} {ts : List Ent} {fm : Int → Option (List Row3)} {c : List Ent} {cvs : List Value} {cn : Nat} {codes : List Int} (hF : FontO x dx dc tp kt pvs ts fm c) (hfm : FmOk fm) (hv : IntsAre cvs codes) (hc : ∀ i ∈ codes, (fm i).isSome) (hz : codes.length ≤ 100) :
    Fn 11 454 [.ref x, .ref ca] [c, [(ca, listOf cvs.toArray cn)]] fun r fp => ∃ d c', r = .ref d ∧ ToldC d (wnodes fm codes) c' ∧ fp = [c', c, [(ca, listOf cvs.toArray cn)]] := by
  have hnl := wnodes_len fm codes
  refine fn_intro (binds := [((Str.ofString "font"), .ref x), ((Str.ofString "text"), .ref ca)]) (gl' := [((Str.ofString "run"), .ref 403), ((Str.ofString "CHAR"), .int 0 564), ((Str.ofString "LIGATURE"), .int 1 565)])
    (ls0 := [((Str.ofString "font"), some (.ref x)), ((Str.ofString "text"), some (.ref ca)), ((Str.ofString "found"), none), ((Str.ofString "node"), none)]) (H := ?_)
  intro Γ K hr hcm hK hN
  refine w_execs_cons <| w_Assign <| w_List <| w_items_nil <| w_newList (by kdl_here) fun _ => ?_
  refine w_store (by assumption) (by kpt_turns) ?_
  refine seq_next <| w_execs_cons ?_
  rename_i d
  refine w_for4 ?_
  refine w_CallName <| w_glob rfl <| w_callK (by kd_p) ?_
  refine w_items_cons <| w_loc rfl <| w_items_cons <| w_loc rfl <| w_items_nil ?_
  refine w_fn4_1 (run_spec hF hfm hv hc hz) (by kdl_here) (by kpf_close) ?_
  intro rd fvs fn ns hnd
  generalize wnodes fm codes = nds at *
  have hnl2 := hnd.length
  refine ⟨fvs.length, _, _, TInv x ca d rd c cvs cn fvs fn ns nds, _, IterOf.three (iter_list (by kcf_m)) (by intro _ _; rfl),
    drop_ (l := [[(d, listOf (List.toArray []) 0)], [(rd, listOf (List.toArray fvs) fn)], ns, c, [(ca, listOf cvs.toArray cn)]]) (l2 := [[(d, listOf (List.toArray []) 0)], [], [(rd, listOf (List.toArray fvs) fn)], ns, c, [(ca, listOf cvs.toArray cn)]]) (by kpf_close) rfl ⟨_, _, _, _, rfl, rfl, .nil, rfl⟩, ?_, ?_, ?_⟩
  · rintro i ls led ⟨y, tvs, tn, ts, rfl, rfl, h, hz⟩; exact by kcf_m
  · rintro i v own ls led K1 hi hP9 hI9
    apply lstN_el hP9; intro hv1
    apply hI9.el; intro y tvs tn ts h hzt
    rintro hK1 -
    refine letG ?_; intro G9
    obtain ⟨nd, own, hnd1, ⟨nx, ndx, es, n, fl, rest, rfl, hf, hk, hm⟩, hsub⟩ := hnd.get hv1
    unfold G9; clear G9
    rw [List.length_take] at hzt
    have hz2 : ∀ q : Value, (tvs ++ [q]).length = (nds.take (i + 1)).length := fun q => by rw [List.length_append, List.length_singleton, List.length_take]; lia
    have hstep : ∀ (a : Addr) (vs : List Value), Rds [(a, tupO vs) :: ts, ns] [.ref a] [nodeD nd] → Rds [(a, tupO vs) :: ts, ns] (tvs ++ [.ref a]) ((nds.take (i + 1)).map nodeD) := fun a vs h' => by
      rw [List.take_add_one, hnd1, List.map_append]
      exact (h.mono fun x hx => by simp at hx ⊢; exact hx.elim (fun q => .inr (.inl q)) fun q => .inr (.inr q)).app h'
    have hns : ∀ y ∈ ns, y ∈ [(d, listOf (List.toArray tvs) tn)] ++ ns := fun y hy => List.mem_append_right _ hy
    cases nd with
    | chr q =>
      refine letG ?_; intro G9
      obtain ⟨rfl, tq, f1⟩ := hm
      unfold G9; clear G9
      have m1 := hsub _ (.head _)
      have m2 := hsub _ (.tail _ (.head _))
      refine w_assignName <| w_store (by assumption) (by kpt_turns) ?_
      refine w_execs_cons <| w_If <| w_tCompare1 <| w_Attr <| w_loc rfl ?_
      refine w_getCls (by kcf_m) (by kcf_m) hf hk (by kst_p) (by decide) ?_
      refine w_glob rfl <| w_eq <| w_truthyB ?_
      refine ite_D (fun _ => ?_) (fun h => absurd rfl h)
      refine w_execs_cons <| w_Expr <| w_CallAttr <| w_loc rfl <| w_meth (by kcf_m) PySem.F.slot_list_append PySem.F.type_list_append ?_
      refine w_callBm <| w_items_cons <| w_Tuple <| w_items_cons <| w_glob rfl <| w_items_cons <| w_Attr <| w_loc rfl <| w_getOwn (attr := none) (by kcf_m) (by kcf_m) (by assumption) (by kd_p1) (by exact rfl) (by kd_in) ?_
      refine w_items_nil <| w_newTuple (by kdl_here) fun _ => ?_
      refine w_items_nil <| w_isAppend <| w_append (by kcj_m) (by kdl_here) ?_
      refine none_and <| seq_next <| w_execs_nil <| seq_next <| w_execs_nil ?_
      rename_i a
      exact hK1 _ _ _ trivial <| drop_ (l := [[(d, listOf (List.toArray (tvs ++ [.ref a])) (tn + 1))], [(a, tupO _)], ts, [(rd, listOf (List.toArray fvs) fn)], ns, c, [(ca, listOf cvs.toArray cn)]]) (l2 := [[(d, listOf (List.toArray (tvs ++ [.ref a])) (tn + 1))], (a, tupO _) :: ts, [(rd, listOf (List.toArray fvs) fn)], ns, c, [(ca, listOf cvs.toArray cn)]]) (by kpf_close) rfl
        ⟨_, _, _, _, rfl, rfl, hstep _ _ (.cons (.tup (.head (.head _)) (.cons (.int _ _) (.cons (.int _ _) .nil))) .nil), hz2 _⟩
    | lig q ps =>
      refine letG ?_; intro G9
      obtain ⟨rfl, ⟨tq, f1⟩, ⟨pa, pvs, f2, m3, hp⟩, f4, f5⟩ := hm
      unfold G9; clear G9
      have m1 := hsub _ (.head _)
      have m2 := hsub _ (.tail _ (.head _))
      have m3 := hsub _ (.tail _ (.tail _ m3))
      refine w_assignName <| w_store (by assumption) (by kpt_turns) ?_
      refine w_execs_cons <| w_If <| w_tCompare1 <| w_Attr <| w_loc rfl ?_
      refine w_getCls (by kcf_m) (by kcf_m) hf hk (by kst_p) (by decide) ?_
      refine w_glob rfl <| w_eq <| w_truthyB ?_
      refine ite_D (fun h => absurd h (by decide)) (fun _ => ?_)
      refine w_execs_cons <| w_If <| w_tCompare1 <| w_Attr <| w_loc rfl ?_
      refine w_getCls (by kcf_m) (by kcf_m) hf hk (by kst_p) (by decide) ?_
      refine w_glob rfl <| w_eq <| w_truthyB ?_
      refine ite_D (fun _ => ?_) (fun h => absurd rfl h)
      refine w_execs_cons <| w_Expr <| w_CallAttr <| w_loc rfl <| w_meth (by kcf_m) PySem.F.slot_list_append PySem.F.type_list_append ?_
      refine w_callBm <| w_items_cons <| w_Tuple <| w_items_cons <| w_glob rfl <| w_items_cons <| w_Attr <| w_loc rfl <| w_getOwn (attr := none) (by kcf_m) (by kcf_m) (by assumption) (by kd_p1) (by exact rfl) (by kd_in) ?_
      refine w_items_cons <| w_Attr <| w_loc rfl <| w_getOwn (attr := none) (by kcf_m) (by kcf_m) (by assumption) (by kd_p1) (by exact rfl) (by kd_in) ?_
      refine w_items_cons <| w_Attr <| w_loc rfl <| w_getOwn (attr := none) (by kcf_m) (by kcf_m) (by assumption) (by kd_p1) (by exact rfl) (by kd_in) ?_
      refine w_items_cons <| w_Attr <| w_loc rfl <| w_getOwn (attr := none) (by kcf_m) (by kcf_m) (by assumption) (by kd_p1) (by exact rfl) (by kd_in) ?_
      refine w_items_nil <| w_newTuple (by kdl_here) fun _ => ?_
      refine w_items_nil <| w_isAppend <| w_append (by kcj_m) (by kdl_here) ?_
      refine none_and <| seq_next <| w_execs_nil <| seq_next <| w_execs_nil <| seq_next <| w_execs_nil ?_
      rename_i a
      exact hK1 _ _ _ trivial <| drop_ (l := [[(d, listOf (List.toArray (tvs ++ [.ref a])) (tn + 1))], [(a, tupO _)], ts, [(rd, listOf (List.toArray fvs) fn)], ns, c, [(ca, listOf cvs.toArray cn)]]) (l2 := [[(d, listOf (List.toArray (tvs ++ [.ref a])) (tn + 1))], (a, tupO _) :: ts, [(rd, listOf (List.toArray fvs) fn)], ns, c, [(ca, listOf cvs.toArray cn)]]) (by kpf_close) rfl
        ⟨_, _, _, _, rfl, rfl, hstep _ _ (.cons (.tup (.head (.head _)) (.cons (.int _ _) (.cons (.int _ _) (.cons (.tup (.tail (.head m3)) (.ints hp)) (.cons (.bool _) (.cons (.bool _) .nil)))))) .nil), hz2 _⟩
    | krn q =>
      refine letG ?_; intro G9
      obtain ⟨rfl, ⟨tq, f1⟩, tq2, f2⟩ := hm
      unfold G9; clear G9
      have m1 := hsub _ (.head _)
      have m2 := hsub _ (.tail _ (.head _))
      refine w_assignName <| w_store (by assumption) (by kpt_turns) ?_
      refine w_execs_cons <| w_If <| w_tCompare1 <| w_Attr <| w_loc rfl ?_
      refine w_getCls (by kcf_m) (by kcf_m) hf hk (by kst_p) (by decide) ?_
      refine w_glob rfl <| w_eq <| w_truthyB ?_
      refine ite_D (fun h => absurd h (by decide)) (fun _ => ?_)
      refine w_execs_cons <| w_If <| w_tCompare1 <| w_Attr <| w_loc rfl ?_
      refine w_getCls (by kcf_m) (by kcf_m) hf hk (by kst_p) (by decide) ?_
      refine w_glob rfl <| w_eq <| w_truthyB ?_
      refine ite_D (fun h => absurd h (by decide)) (fun _ => ?_)
      refine w_execs_cons <| w_Expr <| w_CallAttr <| w_loc rfl <| w_meth (by kcf_m) PySem.F.slot_list_append PySem.F.type_list_append ?_
      refine w_callBm <| w_items_cons <| w_Tuple <| w_items_cons <| w_Attr <| w_loc rfl ?_
      refine w_getCls (by kcf_m) (by kcf_m) hf hk (by kst_p) (by decide) ?_
      refine w_items_cons <| w_Attr <| w_loc rfl <| w_getOwn (attr := none) (by kcf_m) (by kcf_m) (by assumption) (by kd_p1) (by exact rfl) (by kd_in) ?_
      refine w_items_cons <| w_Attr <| w_loc rfl <| w_getOwn (attr := none) (by kcf_m) (by kcf_m) (by assumption) (by kd_p1) (by exact rfl) (by kd_in) ?_
      refine w_items_nil <| w_newTuple (by kdl_here) fun _ => ?_
      refine w_items_nil <| w_isAppend <| w_append (by kcj_m) (by kdl_here) ?_
      refine none_and <| seq_next <| w_execs_nil <| seq_next <| w_execs_nil <| seq_next <| w_execs_nil ?_
      rename_i a
      exact hK1 _ _ _ trivial <| drop_ (l := [[(d, listOf (List.toArray (tvs ++ [.ref a])) (tn + 1))], [(a, tupO _)], ts, [(rd, listOf (List.toArray fvs) fn)], ns, c, [(ca, listOf cvs.toArray cn)]]) (l2 := [[(d, listOf (List.toArray (tvs ++ [.ref a])) (tn + 1))], (a, tupO _) :: ts, [(rd, listOf (List.toArray fvs) fn)], ns, c, [(ca, listOf cvs.toArray cn)]]) (by kpf_close) rfl
        ⟨_, _, _, _, rfl, rfl, hstep _ _ (.cons (.tup (.head (.head _)) (.cons (.int _ _) (.cons (.int _ _) (.cons (.int _ _) .nil)))) .nil), hz2 _⟩
  · rintro ls led hI9
    apply hI9.el; intro y tvs tn ts h hz
    rw [hnl2, List.take_length] at h hz
    refine seq_next <| w_execs_cons <| w_Return <| w_loc rfl <| seq_ret ?_
    exact hK _ _ _ <| drop_ (l := [[(d, listOf (List.toArray tvs) tn)], ts, ns, c, [(ca, listOf cvs.toArray cn)]]) (l2 := [(d, listOf (List.toArray tvs) tn) :: (ts ++ ns), c, [(ca, listOf cvs.toArray cn)]]) (by kpf_close) (by simp)
      ⟨d, _, rfl, ⟨tvs, tn, ts ++ ns, rfl, h.mono fun x hx => by simpa using hx, hz⟩, rfl⟩


-- the kerns' dict
def kget (Kn : List (List Int × Int)) (k : List Int) : Option Int := (Kn.find? fun p => decide (p.1 = k)).map (·.2)
def kset (Kn : List (List Int × Int)) (k : List Int) (v : Int) : List (List Int × Int) := if (kget Kn k).isSome then Kn.map (fun p => if p.1 = k then (p.1, v) else p) else Kn ++ [(k, v)]
inductive ValAre : List (List Int × Addr × Value) → List (List Int × Int) → Prop
  | nil : ValAre [] []
  | cons (k : List Int) (a : Addr) (v : Int) (t : Tok) {xs : List (List Int × Addr × Value)} {Kn : List (List Int × Int)} : ValAre xs Kn → ValAre ((k, a, .int v t) :: xs) ((k, v) :: Kn)
theorem ValAre.length {xs : List (List Int × Addr × Value)} {Kn : List (List Int × Int)} (h : ValAre xs Kn) : xs.length = Kn.length := by
  induction h with
  | nil => rfl
  | cons _ _ _ _ _ ih => simp [ih]
theorem ValAre.at {xs : List (List Int × Addr × Value)} {Kn : List (List Int × Int)} (h : ValAre xs Kn) (k : List Int) : match kget Kn k with | none => atKey xs k = none | some v => ∃ a t, atKey xs k = some (a, .int v t) := by
  induction h with
  | nil => rfl
  | @cons k' a v t xs Kn _ ih =>
    unfold kget atKey at *
    rw [List.find?_cons, List.find?_cons]
    by_cases e : k' = k
    · simp only [e, decide_true, Option.map_some]
      exact ⟨a, t, rfl⟩
    · simp only [e, decide_false]
      exact ih
theorem ValAre.snoc {xs : List (List Int × Addr × Value)} {Kn : List (List Int × Int)} (h : ValAre xs Kn) (k : List Int) (a : Addr) (v : Int) (t : Tok) : ValAre (xs ++ [(k, a, .int v t)]) (Kn ++ [(k, v)]) := by
  induction h with
  | nil => exact .cons _ _ _ _ .nil
  | cons k' a' v' t' _ ih => exact .cons _ _ _ _ ih
theorem ValAre.put {xs : List (List Int × Addr × Value)} {Kn : List (List Int × Int)} (h : ValAre xs Kn) (k : List Int) (v : Int) (t : Tok) : ValAre (xs.map (putAt k (.int v t))) (Kn.map fun p => if p.1 = k then (p.1, v) else p) := by
  induction h with
  | nil => exact .nil
  | cons k' a' v' t' _ ih =>
    rw [List.map_cons, List.map_cons, putAt]
    by_cases e : k' = k
    · rw [if_pos e, if_pos e]; exact .cons _ _ _ _ ih
    · rw [if_neg e, if_neg e]; exact .cons _ _ _ _ ih
theorem ValAre.set {xs : List (List Int × Addr × Value)} {Kn : List (List Int × Int)} (h : ValAre xs Kn) (k : List Int) (a : Addr) (v : Int) (t : Tok) : ValAre (storedH xs k a (.int v t)) (kset Kn k v) := by
  have hk := h.at k
  unfold storedH kset
  cases e : kget Kn k with
  | none => rw [e] at hk; rw [hk]; exact h.snoc k a v t
  | some u =>
    rw [e] at hk
    obtain ⟨a', t', hk⟩ := hk
    rw [hk]
    exact h.put k v t
theorem ValAre.get {xs : List (List Int × Addr × Value)} {Kn : List (List Int × Int)} (h : ValAre xs Kn) {i : Nat} {x : List Int × Addr × Value} (e : xs[i]? = some x) : ∃ v t, x.2.2 = .int v t ∧ Kn[i]? = some (x.1, v) := by
  induction h generalizing i with
  | nil => simp at e
  | cons k a v t _ ih =>
    cases i with
    | zero => cases e; exact ⟨_, _, rfl, rfl⟩
    | succ i => exact ih (by simpa using e)
def KeyTs (xs : List (List Int × Addr × Value)) (ts : List Ent) : Prop := ∀ x ∈ xs, ∃ vs, (x.2.1, tupO vs) ∈ ts ∧ IntsAre vs x.1
inductive KernsC (d : Addr) (Kn : List (List Int × Int)) (c : List Ent) : Prop
  | mk (es : Array DictEntry) (ep : Nat) (xs : List (List Int × Addr × Value)) (ts : List Ent) (lo : (d == sysModules) = false) (e : c = (d, dictO es ep) :: ts) (hT : TDict es xs) (hk : KeyTs xs ts) (hv : ValAre xs Kn) : KernsC d Kn c
-- the longest word at a place
def bestN (suf : List Int) (W : List (List Int)) (x : Int) : Nat → Int × Nat
  | 0 => (x, 1)
  | i + 1 => match W[i]? with
    | some w => if (bestN suf W x i).2 < w.length ∧ suf.take w.length = w then (20 + (i : Int), w.length) else bestN suf W x i
    | none => bestN suf W x i
theorem bestN_pos (suf : List Int) (W : List (List Int)) (x : Int) : ∀ i, 1 ≤ (bestN suf W x i).2
  | 0 => Nat.le_refl 1
  | i + 1 => by
    have := bestN_pos suf W x i
    rw [bestN]
    split
    · split
      · rename_i h; lia
      · exact this
    · exact this
theorem bestN_le (suf : List Int) (W : List (List Int)) (x : Int) (h : suf ≠ []) : ∀ i, (bestN suf W x i).2 ≤ suf.length
  | 0 => List.length_pos_iff.mpr h
  | i + 1 => by
    have := bestN_le suf W x h i
    rw [bestN]
    split
    · split
      · rename_i w _ h
        have := congrArg List.length h.2
        rw [List.length_take] at this
        dsimp only
        lia
      · exact this
    · exact this
def partOf (suf : List Int) (b : Int × Nat) : Node := if b.2 = 1 then .chr b.1 else .lig b.1 (suf.take b.2)
def krnOf (Kn : List (List Int × Int)) (c : Int) : List Int → List Node
  | [] => []
  | y :: _ => match kget Kn [c, y] with
    | some k => [.krn (kernW k)]
    | none => []
def due (W : List (List Int)) (Kn : List (List Int × Int)) : List Int → List Node
  | [] => []
  | x :: rest => partOf (x :: rest) (bestN (x :: rest) W x W.length) :: (krnOf Kn (bestN (x :: rest) W x W.length).1 (rest.drop ((bestN (x :: rest) W x W.length).2 - 1)) ++ due W Kn (rest.drop ((bestN (x :: rest) W x W.length).2 - 1)))
termination_by l => l.length
decreasing_by simp only [List.length_drop, List.length_cons]; lia
theorem eqvAll_ints : ∀ (a b : List Int), PyData.eqvAll (a.map .int) (b.map .int) = decide (a = b)
  | [], [] => rfl
  | [], _ :: _ => rfl
  | _ :: _, [] => rfl
  | x :: a, y :: b => by
    show (PyData.eqv (.int x) (.int y) && PyData.eqvAll (a.map .int) (b.map .int)) = _
    rw [eqvAll_ints a b]
    show ((x == y) && decide (a = b)) = _
    by_cases e : x = y
    · subst e; simp
    · simp [e]
theorem eqv_ints (a b : List Int) : PyData.eqv (.tuple (a.map .int)) (.tuple (b.map .int)) = decide (a = b) := eqvAll_ints a b
theorem eqv_node : ∀ nd : Node, PyData.eqv (nodeD nd) (nodeD nd) = true
  | .chr c => by
    show (((0 : Int) == 0) && ((c == c) && true)) = true
    simp
  | .lig c ps => by
    show (((1 : Int) == 1) && ((c == c) && (PyData.eqvAll (ps.map .int) (ps.map .int) && ((false == false) && ((false == false) && true))))) = true
    rw [eqvAll_ints]; simp
  | .krn w => by
    show (((5 : Int) == 5) && ((w == w) && (((0 : Int) == 0) && true))) = true
    simp
theorem eqv_nodes : ∀ nds : List Node, PyData.eqvAll (nds.map nodeD) (nds.map nodeD) = true
  | [] => rfl
  | n :: r => by
    show (PyData.eqv (nodeD n) (nodeD n) && PyData.eqvAll (r.map nodeD) (r.map nodeD)) = true
    rw [eqv_node, eqv_nodes r]; rfl
theorem lay_nodes : ∀ nds : List Node, PyData.canLayAll0 (nds.map nodeD) = true
  | [] => rfl
  | n :: r => by
    have h : PyData.canLay0 (nodeD n) = true := by
      cases n with
      | chr c => rfl
      | lig c ps =>
        show (true && (true && (PyData.canLayAll0 (ps.map .int) && (true && (true && true))))) = true
        rw [ints_lay]; rfl
      | krn w => rfl
    show (PyData.canLay0 (nodeD n) && PyData.canLayAll0 (r.map nodeD)) = true
    rw [h, lay_nodes r]; rfl
theorem dep_nodes : ∀ nds : List Node, PyData.depthAll (nds.map nodeD) ≤ 8
  | [] => Nat.zero_le _
  | n :: r => by
    have e : PyData.depthAll ((n :: r).map nodeD) = max (nodeD n).depth (PyData.depthAll (r.map nodeD)) := rfl
    rw [e]
    refine Nat.max_le.mpr ⟨?_, dep_nodes r⟩
    cases n with
    | chr c => exact Nat.le_of_ble_eq_true rfl
    | lig c ps =>
      have h : ∀ ps : List Int, PyData.depthAll (ps.map PyData.int) = 0 := fun ps => by
        induction ps with
        | nil => rfl
        | cons a r ih =>
          show max 0 (PyData.depthAll (r.map PyData.int)) = 0
          rw [ih]; rfl
      show max 0 (max 0 (max (PyData.depthAll (ps.map PyData.int) + 1) (max 0 (max 0 0)))) + 1 ≤ 8
      rw [h]
      decide
    | krn w => exact Nat.le_of_ble_eq_true rfl


theorem WX.at {xs : List (List Int × Addr × Value)} {ts : List Ent} {W : List (List Int)} (h : WX xs ts W) {i : Nat} {w : List Int} (hi : W[i]? = some w) : ∃ a vs t, xs[i]? = some (w, a, .int (20 + (i : Int)) t) ∧ (a, tupO vs) ∈ ts ∧ IntsAre vs w := by
  rw [← h.1, List.getElem?_map] at hi
  obtain ⟨⟨k, a, v⟩, e, rfl⟩ := Option.map_eq_some_iff.mp hi
  obtain ⟨t, ht⟩ := h.2.1 i _ e
  obtain ⟨vs, m, hv⟩ := h.2.2 _ (List.mem_of_getElem? e)
  exact ⟨a, vs, t, by rw [e, show v = .int (20 + (i : Int)) t from ht], m, hv⟩
theorem w_subKern {Γ : Fm} {gl : List (Str × Value)} {cl : List (Str × Addr)} {ls : Locs} {led : Led} {value slice : PySem.Expr} {l : Addr} {u1 u2 u : Tok} {kk : Int} {Q : Value → Locs → Led → Prop} (a : At l (tupO [.int 7001 u1, .int (-3000) u2]) led) (hk : kk = 0 ∨ kk = 1) (h : ∀ u3, Q (.int (kernW kk) u3) ls led)
    (hs : subscripted slice false (.ref l) (.int kk u) = operate [.ref l, .int kk u] (getItem (.ref l) (.int kk u)) := by with_unfolding_all rfl) : WP Γ gl cl ls led (subscriptTail value slice (.ref l) (.int kk u)) Q := by
  rcases hk with rfl | rfl
  · exact w_subT a (by decide) (by decide) rfl (h _) hs
  · exact w_subT a (by decide) (by decide) rfl (h _) hs
theorem KeyTs.keys {xs : List (List Int × Addr × Value)} {ts : List Ent} (h : KeyTs xs ts) {led : Led} (k : ∀ x ∈ ts, x ∈ led.flatten) : Keys led xs := fun x hx => let ⟨vs, a, b⟩ := h x hx; ⟨vs, .of_mem (k _ a), b⟩
theorem kget_mem {Kn : List (List Int × Int)} {k : List Int} {v : Int} (h : kget Kn k = some v) : (k, v) ∈ Kn := by
  obtain ⟨p, e, rfl⟩ := Option.map_eq_some_iff.mp h
  have := List.find?_some e
  rw [← of_decide_eq_true this]
  exact List.mem_of_find?_eq_some e
inductive DInv (ta wd kd fd : Addr) (tvs : List Value) (tn : Nat) (cw ck : List Ent) (W : List (List Int)) (Kn : List (List Int × Int)) (text : List Int) (k : Nat) (ls : Locs) (led : Led) : Prop
  | mk (at_ : Nat) (tt : Tok) (y1 y2 y3 : Option Value) (fvs : List Value) (fn : Nat) (ts : List Ent) (nds : List Node) (e1 : ls = [((Str.ofString "text"), some (.ref ta)), ((Str.ofString "words"), some (.ref wd)), ((Str.ofString "kerns"), some (.ref kd)), ((Str.ofString "found"), some (.ref fd)), ((Str.ofString "at"), some (.int at_ tt)), ((Str.ofString "code"), y1), ((Str.ofString "size"), y2), ((Str.ofString "word"), y3)])
    (e2 : led = [[(fd, listOf (List.toArray fvs) fn)], ts, [(ta, listOf tvs.toArray tn)], cw, ck]) (h : Rds [ts] fvs (nds.map nodeD)) (hz : fvs.length = nds.length) (hz2 : nds.length ≤ 2 * at_) (ha : at_ ≤ text.length) (hk : k = text.length - at_) (hd : nds ++ due W Kn (text.drop at_) = due W Kn text) : DInv ta wd kd fd tvs tn cw ck W Kn text k ls led
theorem DInv.el {ta wd kd fd : Addr} {tvs : List Value} {tn : Nat} {cw ck : List Ent} {W : List (List Int)} {Kn : List (List Int × Int)} {text : List Int} {k : Nat} {ls : Locs} {led : Led} {G : Locs → Led → Prop} (h9 : DInv ta wd kd fd tvs tn cw ck W Kn text k ls led) (k9 : ∀ (at_ : Nat) (tt : Tok) (y1 y2 y3 : Option Value) (fvs : List Value) (fn : Nat) (ts : List Ent) (nds : List Node) (h : Rds [ts] fvs (nds.map nodeD)) (hz : fvs.length = nds.length) (hz2 : nds.length ≤ 2 * at_) (ha : at_ ≤ text.length) (hk : k = text.length - at_) (hd : nds ++ due W Kn (text.drop at_) = due W Kn text), G ([((Str.ofString "text"), some (.ref ta)), ((Str.ofString "words"), some (.ref wd)), ((Str.ofString "kerns"), some (.ref kd)), ((Str.ofString "found"), some (.ref fd)), ((Str.ofString "at"), some (.int at_ tt)), ((Str.ofString "code"), y1), ((Str.ofString "size"), y2), ((Str.ofString "word"), y3)]) ([[(fd, listOf (List.toArray fvs) fn)], ts, [(ta, listOf tvs.toArray tn)], cw, ck])) : G ls led := by
  obtain ⟨at_, tt, y1, y2, y3, fvs, fn, ts, nds, rfl, rfl, h, hz, hz2, ha, hk, hd⟩ := h9
  exact k9 at_ tt y1 y2 y3 fvs fn ts nds h hz hz2 ha hk hd
inductive EInv (ta wd kd fd : Addr) (tvs : List Value) (tn : Nat) (cw ck : List Ent) (W : List (List Int)) (suf : List Int) (x : Int) (at_ : Nat) (tt : Tok) (fvs : List Value) (fn : Nat) (ts : List Ent) (i : Nat) (ls : Locs) (led : Led) : Prop
  | mk (t1 t2 : Tok) (y : Option Value) (e1 : ls = [((Str.ofString "text"), some (.ref ta)), ((Str.ofString "words"), some (.ref wd)), ((Str.ofString "kerns"), some (.ref kd)), ((Str.ofString "found"), some (.ref fd)), ((Str.ofString "at"), some (.int at_ tt)), ((Str.ofString "code"), some (.int (bestN suf W x i).1 t1)), ((Str.ofString "size"), some (.int ((bestN suf W x i).2 : Int) t2)), ((Str.ofString "word"), y)])
    (e2 : led = [[(fd, listOf (List.toArray fvs) fn)], ts, [(ta, listOf tvs.toArray tn)], cw, ck]) : EInv ta wd kd fd tvs tn cw ck W suf x at_ tt fvs fn ts i ls led
theorem EInv.el {ta wd kd fd : Addr} {tvs : List Value} {tn : Nat} {cw ck : List Ent} {W : List (List Int)} {suf : List Int} {x : Int} {at_ : Nat} {tt : Tok} {fvs : List Value} {fn : Nat} {ts : List Ent} {i : Nat} {ls : Locs} {led : Led} {G : Locs → Led → Prop} (h9 : EInv ta wd kd fd tvs tn cw ck W suf x at_ tt fvs fn ts i ls led) (k9 : ∀ (t1 t2 : Tok) (y : Option Value), G ([((Str.ofString "text"), some (.ref ta)), ((Str.ofString "words"), some (.ref wd)), ((Str.ofString "kerns"), some (.ref kd)), ((Str.ofString "found"), some (.ref fd)), ((Str.ofString "at"), some (.int at_ tt)), ((Str.ofString "code"), some (.int (bestN suf W x i).1 t1)), ((Str.ofString "size"), some (.int ((bestN suf W x i).2 : Int) t2)), ((Str.ofString "word"), y)]) ([[(fd, listOf (List.toArray fvs) fn)], ts, [(ta, listOf tvs.toArray tn)], cw, ck])) : G ls led := by
  obtain ⟨t1, t2, y, rfl, rfl⟩ := h9
  exact k9 t1 t2 y
set_option maxHeartbeats 16000000 in
theorem due_spec {ta wd kd : Addr} {tvs : List Value} {tn : Nat} {cw ck : List Ent} {W : List (List Int)} {Kn : List (List Int × Int)} {text : List Int} (hW : Words wd W cw) (hKn : KernsC kd Kn ck) (hv : IntsAre tvs text) (hz : text.length ≤ 100) (hw3 : ∀ w ∈ W, w.length ≤ 3) (hk1 : ∀ p ∈ Kn, p.2 = 0 ∨ p.2 = 1) (hWl : W.length ≤ 100) :
    Fn 1 447 [.ref ta, .ref wd, .ref kd] [[(ta, listOf tvs.toArray tn)], cw, ck] fun r fp => ∃ d c', r = .ref d ∧ ToldC d (due W Kn text) c' ∧ fp = [c', [(ta, listOf tvs.toArray tn)], cw, ck] := by
  have hzv := hv.length
  refine letG ?_; intro G9
  obtain ⟨hlo, esW, epW, xsW, tsW, ecw, hT, hX⟩ := hW
  unfold G9; clear G9
  refine letG ?_; intro G9
  obtain ⟨esK, epK, xsK, tsK, hloK, eck, hTK, hkK, hvK⟩ := hKn
  unfold G9; clear G9
  have mW : (wd, dictO esW epW) ∈ cw := by rw [ecw]; exact .head _
  have mK : (kd, dictO esK epK) ∈ ck := by rw [eck]; exact .head _
  have mtW : ∀ y ∈ tsW, y ∈ cw := fun y h => by rw [ecw]; exact .tail _ h
  have mtK : ∀ y ∈ tsK, y ∈ ck := fun y h => by rw [eck]; exact .tail _ h
  clear ecw eck
  refine fn_intro (binds := [((Str.ofString "text"), .ref ta), ((Str.ofString "words"), .ref wd), ((Str.ofString "kerns"), .ref kd)]) (gl' := [((Str.ofString "len"), .builtin "len"), ((Str.ofString "tuple"), .type "tuple"), ((Str.ofString "CHAR"), .int 0 564), ((Str.ofString "LIGATURE"), .int 1 565), ((Str.ofString "KERN"), .int 5 569), ((Str.ofString "FONT_KERN"), .int 0 580)])
    (ls0 := [((Str.ofString "text"), some (.ref ta)), ((Str.ofString "words"), some (.ref wd)), ((Str.ofString "kerns"), some (.ref kd)), ((Str.ofString "found"), none), ((Str.ofString "at"), none), ((Str.ofString "code"), none), ((Str.ofString "size"), none), ((Str.ofString "word"), none)]) (H := ?_)
  intro Γ K hr hcm hK hN
  refine w_execs_cons ?_
  refine w_AssignSw (oa := none) (ob := none) rfl rfl ?_ ?hw
  case hw =>
    intro env h1 h2 h3
    unfold swappedStores
    simp only [h1, h2, h3, List.filterMap]
    kernel_rfl
  refine w_Tuple <| w_items_cons <| w_List <| w_items_nil <| w_newList (by kdl_here) fun _ => ?_
  refine w_items_cons <| w_int fun _ => w_items_nil <| w_newTuple (by kdl_here) fun _ => ?_
  rename_i fd t0 tup
  refine ⟨_, .ref fd, .int 0 t0, rfl, by kcf_m, ?_⟩
  refine w_store (by assumption) (by kpt_turns) ?_
  refine w_store (by assumption) (by kpt_turns) ?_
  refine seq_next <| w_execs_cons ?_
  refine w_while2 (DInv ta wd kd fd tvs tn cw ck W Kn text) text.length ?_ ?_
  · exact drop_ (l := [[(fd, listOf (List.toArray []) 0)], [(ta, listOf tvs.toArray tn)], cw, ck]) (l2 := [[(fd, listOf (List.toArray []) 0)], [], [(ta, listOf tvs.toArray tn)], cw, ck]) (by kpf_close) rfl
      ⟨0, _, _, _, _, [], 0, [], [], rfl, rfl, .nil, rfl, Nat.le_refl _, Nat.zero_le _, rfl, rfl⟩
  · rintro k ls led K1 hI9
    apply hI9.el; intro at_ tt y1 y2 y3 fvs fn ts nds h hzf hz2 ha h9r hd
    obtain rfl := h9r
    rintro hK1 - -
    refine w_tCompare1 <| w_loc rfl <| w_CallName <| w_glob rfl <| w_callB <| w_items_cons <| w_loc rfl <| w_items_nil <| w_lenL (by kcf_m) (by kdl_here) fun _ => ?_
    refine w_lt <| w_truthyB ?_
    refine ite_D (fun h1 => ?_) (fun h1 => ?_)
    · have h1 : at_ < text.length := by lia
      obtain ⟨u, e⟩ := ints_get hv h1
      have hsuf : text.drop at_ = text.getD at_ 0 :: text.drop (at_ + 1) := by
        rw [List.drop_eq_getElem_cons h1, List.getD_eq_getElem?_getD, List.getElem?_eq_getElem h1]; rfl
      generalize text.getD at_ 0 = x at *
      refine w_execs_cons ?_
      refine w_AssignSw (oa := y1) (ob := y2) rfl rfl ?_ ?hw
      case hw =>
        intro env h1 h2 h3
        unfold swappedStores
        simp only [h1, h2, h3, List.filterMap]
        kernel_rfl
      refine w_Tuple <| w_items_cons <| w_Subscript <| w_loc rfl <| w_loc rfl ?_
      refine w_subL (by kcf_m) (by kdl_here) (by kdl_here) (by simpa using e) ?_ (by with_unfolding_all rfl)
      refine w_items_cons <| w_int fun _ => w_items_nil <| w_newTuple (by kdl_here) fun _ => ?_
      rename_i t1 tup
      refine ⟨_, .int x u, .int 1 t1, rfl, by kcf_m, ?_⟩
      refine w_store (by assumption) (by kpt_turns) ?_
      refine w_store (by assumption) (by kpt_turns) ?_
      refine seq_next <| w_execs_cons ?_
      refine w_for4 ?_
      refine w_loc rfl ?_
      refine ⟨esW.size, _, _, EInv ta wd kd fd tvs tn cw ck W (text.drop at_) x at_ tt fvs fn ts, _, IterOf.three (iter_dict (by kcf_m) hlo) (by intro _ _; rfl),
        drop_ (l := [[(fd, listOf (List.toArray fvs) fn)], ts, [(ta, listOf tvs.toArray tn)], cw, ck]) (by kpf_close) rfl ⟨_, _, _, rfl, rfl⟩, ?_, ?_, ?_⟩
      · rintro i ls led ⟨t1, t2, y, rfl, rfl⟩; exact by kcf_m
      · rintro i v own ls led K2 hi hP9 hI9
        apply dicN_el hP9; intro en hen
        apply hI9.el; intro t1 t2 y
        rintro hK2 -
        obtain ⟨w, ha, hx2⟩ : ∃ w, W[i]? = some w ∧ True := ⟨_, List.getElem?_eq_getElem (by rw [hT.size, hX.len] at hi; exact hi), trivial⟩
        refine letG ?_; intro G9
        obtain ⟨wa, wvs, wt, hxi, hwm, hwv⟩ := hX.at ha
        unfold G9; clear G9
        refine letG ?_; intro G9
        obtain ⟨k', a', v', rfl, hxi'⟩ := hT.get hen
        unfold G9; clear G9
        rw [hxi] at hxi'
        cases hxi'
        have hwm := mtW _ hwm
        have hwl := hwv.length
        have hw3 := hw3 w (List.mem_of_getElem? ha)
        refine w_assignName <| w_store (by assumption) (by kpt_turns) ?_
        refine w_execs_cons <| w_If <| w_tBoolOp <| w_allAnd <| w_tCompare1 <| w_CallName <| w_glob rfl <| w_callB <| w_items_cons <| w_loc rfl <| w_items_nil <| w_lenT (by kcf_m) (by kdl_here) fun _ => ?_
        refine w_loc rfl <| w_gt <| w_truthyB ?_
        have hno : ¬ ((bestN (text.drop at_) W x i).2 < w.length ∧ (text.drop at_).take w.length = w) → bestN (text.drop at_) W x (i + 1) = bestN (text.drop at_) W x i := fun h => by rw [bestN, ha]; exact if_neg h
        refine ite_D (fun h2 => ?_) (fun h2 => ?_)
        · refine w_allAnd <| w_tCompare1 <| w_CallName <| w_glob rfl <| w_callT <| w_items_cons <| w_Subscript <| w_loc rfl <| w_Slice <| w_partSome <| w_loc rfl <| w_partSome <| w_BinOp <| w_loc rfl <| w_CallName <| w_glob rfl <| w_callB <| w_items_cons <| w_loc rfl <| w_items_nil <| w_lenT (by kcf_m) (by kdl_here) fun _ => ?_
          refine w_add fun _ => w_partNone <| all_sl fun _ => ?_
          refine w_sliceL (by kcf_m) (by kcf_m) (.int _ _) (.int _ _) .none (by decide) (slice_win _ (by kdl_here)) (by kdl_here) ?_ (by with_unfolding_all rfl) (by intro _; with_unfolding_all rfl)
          intro sl
          refine w_items_nil <| w_tupleL (by kcf_m) (by kdl_here) fun _ => ?_
          refine w_loc rfl ?_
          refine w_eqD (.tup (by kcf_m) (.ints ((hv.drop at_).take _))) (.tup (by kcf_m) (.ints hwv)) (ints_lay _) (ints_lay _) (by have := ints_depth ((text.drop at_).take wvs.length); show PyData.depthAll _ + 1 ≤ 9; lia) ?_
          rw [eqv_ints, hwl]
          refine w_truthyB ?_
          refine ite_D (fun h3 => ?_) (fun h3 => ?_)
          · refine w_allAndNil <| ite_T <| w_execs_cons ?_
            refine w_AssignSw (oa := some _) (ob := some _) rfl rfl ?_ ?hw
            case hw =>
              intro env h1 h2 h3
              unfold swappedStores
              simp only [h1, h2, h3, List.filterMap]
              kernel_rfl
            refine w_Tuple <| w_items_cons <| w_Subscript <| w_loc rfl <| w_loc rfl ?_
            refine w_itemT (by kcf_m) hT (hX.keys fun y h => by simp [mtW y h]) (by kcf_m) hwv (atKey_at hT.2 (List.mem_of_getElem? hxi)) ?_ (by with_unfolding_all rfl) (by intro _; with_unfolding_all rfl)
            refine w_items_cons <| w_CallName <| w_glob rfl <| w_callB <| w_items_cons <| w_loc rfl <| w_items_nil <| w_lenT (by kcf_m) (by kdl_here) fun _ => ?_
            refine w_items_nil <| w_newTuple (by kdl_here) fun _ => ?_
            refine ⟨_, _, _, rfl, At.head (.head _), ?_⟩
            refine w_store (by assumption) (by kpt_turns) ?_
            refine w_store (by assumption) (by kpt_turns) ?_
            refine seq_next <| w_execs_nil <| seq_next <| w_execs_nil ?_
            have hyes : bestN (text.drop at_) W x (i + 1) = (20 + (i : Int), wvs.length) := by rw [bestN, ha, hwl]; exact if_pos ⟨by lia, h3⟩
            exact hK2 _ _ _ trivial <| drop_ (l := [[(fd, listOf (List.toArray fvs) fn)], ts, [(ta, listOf tvs.toArray tn)], cw, ck]) (by kpf_close) rfl ⟨wt, _, _, by rw [hyes], rfl⟩
          · refine ite_F <| w_execs_nil <| seq_next <| w_execs_nil ?_
            exact hK2 _ _ _ trivial <| drop_ (l := [[(fd, listOf (List.toArray fvs) fn)], ts, [(ta, listOf tvs.toArray tn)], cw, ck]) (by kpf_close) rfl ⟨t1, t2, _, by rw [hno fun h => h3 h.2], rfl⟩
        · refine ite_F <| w_execs_nil <| seq_next <| w_execs_nil ?_
          exact hK2 _ _ _ trivial <| drop_ (l := [[(fd, listOf (List.toArray fvs) fn)], ts, [(ta, listOf tvs.toArray tn)], cw, ck]) (by kpf_close) rfl ⟨t1, t2, _, by rw [hno (by kdl_here)], rfl⟩
      · rintro ls led hI9
        apply hI9.el; intro t1 t2 y
        rw [hT.size, hX.len]
        have hb1 := bestN_pos (text.drop at_) W x W.length
        have hb2 := bestN_le (text.drop at_) W x (by rw [hsuf]; simp) W.length
        rw [List.length_drop] at hb2
        have hdrop : (text.drop (at_ + 1)).drop ((bestN (text.drop at_) W x W.length).2 - 1) = text.drop (at_ + (bestN (text.drop at_) W x W.length).2) := by rw [List.drop_drop]; congr 1; lia
        have hdue : due W Kn (text.drop at_) = partOf (text.drop at_) (bestN (text.drop at_) W x W.length) :: (krnOf Kn (bestN (text.drop at_) W x W.length).1 (text.drop (at_ + (bestN (text.drop at_) W x W.length).2)) ++ due W Kn (text.drop (at_ + (bestN (text.drop at_) W x W.length).2))) := by
          rw [← hdrop]
          conv => lhs; rw [hsuf]
          rw [due, ← hsuf]
        rw [hdue] at hd
        clear hdue hdrop hsuf
        generalize bestN (text.drop at_) W x W.length = b at *
        obtain ⟨bc, bs⟩ := b
        dsimp only at hb1 hb2 hd ⊢
        refine seq_next <| w_execs_cons <| w_Expr <| w_CallAttr <| w_loc rfl <| w_meth (by kcf_m) PySem.F.slot_list_append PySem.F.type_list_append ?_
        refine w_callBm <| w_items_cons <| w_IfExp <| w_tCompare1 <| w_loc rfl <| w_int fun _ => w_eq <| w_truthyB ?_
        refine ite_cut (fun v ls' led' => ls' = [((Str.ofString "text"), some (.ref ta)), ((Str.ofString "words"), some (.ref wd)), ((Str.ofString "kerns"), some (.ref kd)), ((Str.ofString "found"), some (.ref fd)), ((Str.ofString "at"), some (.int at_ tt)), ((Str.ofString "code"), some (.int bc t1)), ((Str.ofString "size"), some (.int (bs : Int) t2)), ((Str.ofString "word"), y)] ∧
          Drop (fun l => ∃ a vs own, v = .ref a ∧ l = [(a, tupO vs) :: own, [(fd, listOf (List.toArray fvs) fn)], ts, [(ta, listOf tvs.toArray tn)], cw, ck] ∧ Rds [(a, tupO vs) :: own] [.ref a] [nodeD (partOf (text.drop at_) (bc, bs))]) led') (fun h2 => ?_) (fun h2 => ?_) ?_
        · have h2 : bs = 1 := by lia
          refine w_Tuple <| w_items_cons <| w_glob rfl <| w_items_cons <| w_loc rfl <| w_items_nil <| w_newTuple (by kdl_here) fun _ => ?_
          rename_i a
          refine ⟨rfl, drop_ (l := [[(a, tupO _)], [(fd, listOf (List.toArray fvs) fn)], ts, [(ta, listOf tvs.toArray tn)], cw, ck]) (by kpf_close) rfl ⟨a, _, [], rfl, rfl, ?_⟩⟩
          unfold partOf
          rw [if_pos h2]
          exact .cons (.tup (.head (.head _)) (.cons (.int _ _) (.cons (.int _ _) .nil))) .nil
        · have h2 : bs ≠ 1 := by lia
          refine w_Tuple <| w_items_cons <| w_glob rfl <| w_items_cons <| w_loc rfl <| w_items_cons <| w_CallName <| w_glob rfl <| w_callT <| w_items_cons <| w_Subscript <| w_loc rfl <| w_Slice <| w_partSome <| w_loc rfl <| w_partSome <| w_BinOp <| w_loc rfl <| w_loc rfl <| w_add fun _ => w_partNone <| all_sl fun _ => ?_
          refine w_sliceL (by kcf_m) (by kcf_m) (.int _ _) (.int _ _) .none (by decide) (slice_win _ (by kdl_here)) (by kdl_here) ?_ (by with_unfolding_all rfl) (by intro _; with_unfolding_all rfl)
          intro sl
          refine w_items_nil <| w_tupleL (by kcf_m) (by kdl_here) fun _ => ?_
          refine w_items_cons <| w_bool <| w_items_cons <| w_bool <| w_items_nil <| w_newTuple (by kdl_here) fun _ => ?_
          rename_i tp a
          refine ⟨rfl, drop_ (l := [[(a, tupO _)], [(tp, tupO _)], [(fd, listOf (List.toArray fvs) fn)], ts, [(ta, listOf tvs.toArray tn)], cw, ck]) (l2 := [(a, tupO _) :: [(tp, tupO _)], [(fd, listOf (List.toArray fvs) fn)], ts, [(ta, listOf tvs.toArray tn)], cw, ck]) (by kpf_close) rfl ⟨a, _, [(tp, tupO _)], rfl, rfl, ?_⟩⟩
          unfold partOf
          rw [if_neg h2]
          exact .cons (.tup (.head (.head _)) (.cons (.int _ _) (.cons (.int _ _) (.cons (.tup (.head (.tail _ (.head _))) (.ints ((hv.drop at_).take bs))) (.cons (.bool _) (.cons (.bool _) .nil)))))) .nil
        · rintro v ls' led' ⟨rfl, hdr⟩
          refine WP.ofDrop hdr ?_
          rintro l ⟨a, vs, own, rfl, rfl, hr⟩
          have hrd : Rds [((a, tupO vs) :: own) ++ ts] (fvs ++ [.ref a]) ((nds ++ [partOf (text.drop at_) (bc, bs)]).map nodeD) := by
            rw [List.map_append]
            exact (h.mono fun y hy => by simp at hy ⊢; exact .inr (.inr hy)).app (hr.mono fun y hy => by simp at hy ⊢; exact hy.elim .inl fun q => .inr (.inl q))
          refine w_items_nil <| w_isAppend <| w_append (by kcj_m) (by kdl_here) ?_
          refine none_and <| seq_next <| w_execs_cons <| w_Assign <| w_BinOp <| w_loc rfl <| w_loc rfl <| w_add fun _ => w_store (by assumption) (by kpt_turns) ?_
          refine seq_next <| w_execs_cons <| w_If <| w_tBoolOp <| w_allAnd <| w_tCompare1 <| w_loc rfl <| w_CallName <| w_glob rfl <| w_callB <| w_items_cons <| w_loc rfl <| w_items_nil <| w_lenL (by kcf_m) (by kdl_here) fun _ => ?_
          refine w_lt <| w_truthyB ?_
          refine ite_D (fun h3 => ?_) (fun h3 => ?_)
          · have h4 : at_ + bs < text.length := by lia
            obtain ⟨u2, e2⟩ := ints_get hv h4
            have e2 : tvs[((at_ : Int) + (bs : Int)).toNat]? = some (.int (text.getD (at_ + bs) 0) u2) := by rw [show ((at_ : Int) + (bs : Int)).toNat = at_ + bs by lia]; exact e2
            have hy : text.drop (at_ + bs) = text.getD (at_ + bs) 0 :: text.drop (at_ + bs + 1) := by
              rw [List.drop_eq_getElem_cons h4, List.getD_eq_getElem?_getD, List.getElem?_eq_getElem h4]; rfl
            generalize text.getD (at_ + bs) 0 = y2 at *
            have hat := hvK.at [bc, y2]
            have hkr : krnOf Kn bc (text.drop (at_ + bs)) = match kget Kn [bc, y2] with | some k => [.krn (kernW k)] | none => [] := by rw [hy]; rfl
            refine w_allAnd <| w_tCompare1 <| w_Tuple <| w_items_cons <| w_loc rfl <| w_items_cons <| w_Subscript <| w_loc rfl <| w_loc rfl ?_
            refine w_subL (by kcf_m) (by kdl_here) (by kdl_here) e2 ?_ (by with_unfolding_all rfl)
            refine w_items_nil <| w_newTuple (by kdl_here) fun _ => ?_
            refine w_loc rfl ?_
            refine w_inT (by kcf_m) hloK hTK (hkK.keys fun y h => by simp [mtK y h]) (by kcf_m) (.cons _ _ (.cons _ _ .nil)) ?_
            cases hkg : kget Kn [bc, y2] with
            | none =>
              rw [hkg] at hat hkr
              rw [hat, Option.isSome_none]
              rw [hkr] at hd
              refine w_truthyB <| ite_F <| ite_F <| w_execs_nil <| seq_next <| w_execs_nil ?_
              exact hK1 _ _ _ trivial ⟨text.length - (at_ + bs), by lia, drop_ (l := [[(fd, listOf (List.toArray (fvs ++ [.ref a])) (fn + 1))], (a, tupO vs) :: own, ts, [(ta, listOf tvs.toArray tn)], cw, ck]) (l2 := [[(fd, listOf (List.toArray (fvs ++ [.ref a])) (fn + 1))], ((a, tupO vs) :: own) ++ ts, [(ta, listOf tvs.toArray tn)], cw, ck]) (by kpf_close) (by simp)
                ⟨at_ + bs, _, _, _, _, _, _, _, nds ++ [_], by push_cast; rfl, rfl, hrd, by rw [List.length_append, List.length_append, hzf]; rfl, by rw [List.length_append, List.length_singleton]; lia, by lia, rfl, by rw [List.append_assoc]; exact hd⟩⟩
            | some kk =>
              rw [hkg] at hat hkr
              refine letG ?_; intro G9
              obtain ⟨ka, kt, hat⟩ := hat
              unfold G9; clear G9
              rw [hat, Option.isSome_some]
              rw [hkr] at hd
              have hk2 := hk1 _ (kget_mem hkg)
              refine w_truthyB <| ite_T <| w_allAndNil <| ite_T <| w_execs_cons <| w_Expr <| w_CallAttr <| w_loc rfl <| w_meth (by kcf_m) PySem.F.slot_list_append PySem.F.type_list_append ?_
              refine w_callBm <| w_items_cons <| w_Tuple <| w_items_cons <| w_glob rfl <| w_items_cons <| w_Subscript <| w_Tuple <| w_items_cons <| w_int fun _ => w_items_cons <| w_UnaryOp <| w_int fun _ => w_neg fun _ => w_items_nil <| w_newTuple (by kdl_here) fun _ => ?_
              refine w_Subscript <| w_loc rfl <| w_Tuple <| w_items_cons <| w_loc rfl <| w_items_cons <| w_Subscript <| w_loc rfl <| w_loc rfl ?_
              refine w_subL (by kcf_m) (by kdl_here) (by kdl_here) e2 ?_ (by with_unfolding_all rfl)
              refine w_items_nil <| w_newTuple (by kdl_here) fun _ => ?_
              refine w_itemT (by kcf_m) hTK (hkK.keys fun y h => by simp [mtK y h]) (by kcf_m) (.cons _ _ (.cons _ _ .nil)) hat ?_ (by with_unfolding_all rfl) (by intro _; with_unfolding_all rfl)
              refine w_subKern (by kcf_m) hk2 (fun u3 => ?_) (by with_unfolding_all rfl)
              refine w_items_cons <| w_glob rfl <| w_items_nil <| w_newTuple (by kdl_here) fun _ => ?_
              refine w_items_nil <| w_isAppend <| w_append (by kcj_m) (by kdl_here) ?_
              refine none_and <| seq_next <| w_execs_nil <| seq_next <| w_execs_nil ?_
              rename_i ktu
              exact hK1 _ _ _ trivial ⟨text.length - (at_ + bs), by lia, drop_ (l := [[(fd, listOf (List.toArray ((fvs ++ [.ref a]) ++ [.ref ktu])) (fn + 1 + 1))], [(ktu, tupO [.int 5 569, .int (kernW kk) u3, .int 0 580])], (a, tupO vs) :: own, ts, [(ta, listOf tvs.toArray tn)], cw, ck]) (l2 := [[(fd, listOf (List.toArray ((fvs ++ [.ref a]) ++ [.ref ktu])) (fn + 1 + 1))], (ktu, tupO [.int 5 569, .int (kernW kk) u3, .int 0 580]) :: (((a, tupO vs) :: own) ++ ts), [(ta, listOf tvs.toArray tn)], cw, ck]) (by kpf_close) (by simp)
                ⟨at_ + bs, _, _, _, _, _, _, _, (nds ++ [_]) ++ [.krn (kernW kk)], by push_cast; rfl, rfl, by
                  rw [List.map_append]
                  exact (hrd.mono fun y hy => by simp at hy ⊢; exact .inr hy).app (.cons (.tup (.head (.head _)) (.cons (.int _ _) (.cons (.int _ _) (.cons (.int _ _) .nil)))) .nil), by simp [hzf], by rw [List.length_append, List.length_append, List.length_singleton, List.length_singleton]; lia, by lia, rfl, by rw [List.append_assoc, List.append_assoc]; exact hd⟩⟩
          · have h4 : at_ + bs = text.length := by lia
            rw [h4, List.drop_length] at hd
            refine ite_F <| w_execs_nil <| seq_next <| w_execs_nil ?_
            exact hK1 _ _ _ trivial ⟨text.length - (at_ + bs), by lia, drop_ (l := [[(fd, listOf (List.toArray (fvs ++ [.ref a])) (fn + 1))], (a, tupO vs) :: own, ts, [(ta, listOf tvs.toArray tn)], cw, ck]) (l2 := [[(fd, listOf (List.toArray (fvs ++ [.ref a])) (fn + 1))], ((a, tupO vs) :: own) ++ ts, [(ta, listOf tvs.toArray tn)], cw, ck]) (by kpf_close) (by simp)
              ⟨at_ + bs, _, _, _, _, _, _, _, nds ++ [_], by push_cast; rfl, rfl, hrd, by rw [List.length_append, List.length_append, hzf]; rfl, by rw [List.length_append, List.length_singleton]; lia, by lia, rfl, by rw [List.append_assoc, h4, List.drop_length]; exact hd⟩⟩
    · have h1 : at_ = text.length := by lia
      rw [h1, List.drop_length] at hd
      rw [due, List.append_nil] at hd
      refine seq_next <| w_execs_cons <| w_Return <| w_loc rfl <| seq_ret ?_
      exact hK _ _ _ <| drop_ (l := [[(fd, listOf (List.toArray fvs) fn)], ts, [(ta, listOf tvs.toArray tn)], cw, ck]) (l2 := [(fd, listOf (List.toArray fvs) fn) :: ts, [(ta, listOf tvs.toArray tn)], cw, ck]) (by kpf_close) rfl ⟨fd, _, rfl, by rw [← hd]; exact ⟨fvs, fn, ts, rfl, h, hzf⟩, rfl⟩


/-- what stands left of a kern: a letter, or a ligature's code, and its letters -/
def LeftOk (L : Int) (W : List (List Int)) (c : Int) (ws : List Int) : Prop := (1 ≤ c ∧ c ≤ L ∧ ws = [c]) ∨ ∃ i : Nat, W[i]? = some ws ∧ c = 20 + (i : Int)
def GoodK (L : Int) (W : List (List Int)) (Kn : List (List Int × Int)) : Prop := (∀ p ∈ Kn, (∃ c l ws, p.1 = [c, l] ∧ 1 ≤ l ∧ l ≤ L ∧ LeftOk L W c ws ∧ ws ++ [l] ∉ W) ∧ (p.2 = 0 ∨ p.2 = 1)) ∧ (Kn.map (·.1)).Nodup
/-- the names' dict: each word's code, and where the word stands -/
def nameKv (xs : List (List Int × Addr × Value)) : Nat → List (Int × Value)
  | 0 => []
  | i + 1 => match xs[i]? with
    | some x => nameKv xs i ++ [(20 + (i : Int), .ref x.2.1)]
    | none => nameKv xs i
theorem nameKv_mem {xs : List (List Int × Addr × Value)} {n : Nat} {p : Int × Value} (h : p ∈ nameKv xs n) : ∃ i x, i < n ∧ xs[i]? = some x ∧ p = (20 + (i : Int), .ref x.2.1) := by
  induction n with
  | zero => cases h
  | succ n ih =>
    rw [nameKv] at h
    split at h
    · rename_i x e
      rcases List.mem_append.mp h with h | h
      · obtain ⟨i, y, a, b, c⟩ := ih h; exact ⟨i, y, by lia, b, c⟩
      · exact ⟨n, x, Nat.lt_succ_self _, e, List.mem_singleton.mp h⟩
    · obtain ⟨i, y, a, b, c⟩ := ih h; exact ⟨i, y, by lia, b, c⟩
theorem nameKv_none {xs : List (List Int × Addr × Value)} (n : Nat) : valueAt (nameKv xs n) (20 + (n : Int)) = none := by
  unfold valueAt
  rw [Option.map_eq_none_iff, List.find?_eq_none]
  intro p hp
  obtain ⟨i, x, a, b, rfl⟩ := nameKv_mem hp
  simp; lia
theorem nameKv_len (xs : List (List Int × Addr × Value)) : ∀ n, (nameKv xs n).length ≤ n
  | 0 => Nat.le_refl _
  | n + 1 => by
    have := nameKv_len xs n
    rw [nameKv]
    split
    · rw [List.length_append, List.length_singleton]; lia
    · lia
theorem nameKv_at {xs : List (List Int × Addr × Value)} {i : Nat} {x : List Int × Addr × Value} (e : xs[i]? = some x) : ∀ n, i < n → valueAt (nameKv xs n) (20 + (i : Int)) = some (.ref x.2.1)
  | 0, h => absurd h (Nat.not_lt_zero _)
  | n + 1, h => by
    have app : ∀ (l r : List (Int × Value)) (k : Int), valueAt (l ++ r) k = (valueAt l k).or (valueAt r k) := fun l r k => by
      unfold valueAt; rw [List.find?_append]; cases List.find? (fun kv => decide (kv.1 = k)) l <;> simp
    by_cases q : i = n
    · subst q
      rw [nameKv, e]
      dsimp only
      rw [app, nameKv_none]
      simp [valueAt]
    · have ih := nameKv_at e n (by kdl_here)
      rw [nameKv]
      split
      · rw [app, ih]; rfl
      · exact ih
/-- a left, as a value -/
inductive LeftV (L : Int) (W : List (List Int)) (ts cw : List Ent) (v : Value) : Prop
  | mk (a pa : Addr) (c : Int) (t : Tok) (pvs : List Value) (ws : List Int) (e : v = .ref a) (m : (a, tupO [.int c t, .ref pa]) ∈ ts) (mp : (pa, tupO pvs) ∈ ts ∨ (pa, tupO pvs) ∈ cw) (hp : IntsAre pvs ws) (hne : ws ≠ []) (hz : ws.length ≤ 3) (ok : LeftOk L W c ws) : LeftV L W ts cw v
theorem LeftV.mono {L : Int} {W : List (List Int)} {ts ts' cw : List Ent} {v : Value} (h : LeftV L W ts cw v) (k : ∀ x ∈ ts, x ∈ ts') : LeftV L W ts' cw v := by
  obtain ⟨a, pa, c, t, pvs, ws, e, m, mp, hp, hne, hz, ok⟩ := h
  exact ⟨a, pa, c, t, pvs, ws, e, k _ m, mp.imp (k _) id, hp, hne, hz, ok⟩
theorem kset_good {L : Int} {W : List (List Int)} {Kn : List (List Int × Int)} {k : List Int} {v : Int} (h : ∀ p ∈ Kn, (∃ c l ws, p.1 = [c, l] ∧ 1 ≤ l ∧ l ≤ L ∧ LeftOk L W c ws ∧ ws ++ [l] ∉ W) ∧ (p.2 = 0 ∨ p.2 = 1)) (hk : ∃ c l ws, k = [c, l] ∧ 1 ≤ l ∧ l ≤ L ∧ LeftOk L W c ws ∧ ws ++ [l] ∉ W) (hv : v = 0 ∨ v = 1) :
    ∀ p ∈ kset Kn k v, (∃ c l ws, p.1 = [c, l] ∧ 1 ≤ l ∧ l ≤ L ∧ LeftOk L W c ws ∧ ws ++ [l] ∉ W) ∧ (p.2 = 0 ∨ p.2 = 1) := by
  intro p hp
  unfold kset at hp
  split at hp
  · obtain ⟨q, hq, rfl⟩ := List.mem_map.mp hp
    by_cases e : q.1 = k
    · rw [if_pos e]; exact ⟨(h q hq).1, hv⟩
    · rw [if_neg e]; exact h q hq
  · rcases List.mem_append.mp hp with hp | hp
    · exact h p hp
    · rw [List.mem_singleton.mp hp]; exact ⟨hk, hv⟩
theorem KeyTs.put {xs : List (List Int × Addr × Value)} {ts ts' : List Ent} {k : List Int} {a : Addr} {v : Value} {vs : List Value} (h : KeyTs xs ts) (hsub : ∀ x ∈ ts, x ∈ ts') (ha : (a, tupO vs) ∈ ts') (hi : IntsAre vs k) : KeyTs (storedH xs k a v) ts' := by
  intro x hx
  unfold storedH at hx
  split at hx
  · obtain ⟨y, hy, rfl⟩ := List.mem_map.mp hx
    obtain ⟨vs', m, hv⟩ := h y hy
    unfold putAt
    split
    · exact ⟨vs', hsub _ m, hv⟩
    · exact ⟨vs', hsub _ m, hv⟩
  · rcases List.mem_append.mp hx with hx | hx
    · obtain ⟨vs', m, hv⟩ := h x hx; exact ⟨vs', hsub _ m, hv⟩
    · rw [List.mem_singleton.mp hx]; exact ⟨vs, ha, hi⟩
inductive K1Inv (b wd nd k0 : Addr) (L : Int) (tL : Tok) (o2 : Obj) (c cw : List Ent) (xs : List (List Int × Addr × Value)) (i : Nat) (ls : Locs) (led : Led) : Prop
  | mk (es : Array DictEntry) (ep : Nat) (y : Option Value) (e1 : ls = [((Str.ofString "bag"), some (.ref b)), ((Str.ofString "letters"), some (.int L tL)), ((Str.ofString "words"), some (.ref wd)), ((Str.ofString "word"), y), ((Str.ofString "lefts"), none), ((Str.ofString "found"), none), ((Str.ofString "turn"), none), ((Str.ofString "code"), none), ((Str.ofString "letter"), none), ((Str.ofString "which"), none)])
    (e2 : led = [[(nd, dictO es ep)], [(k0, o2)], c, cw]) (hI : IDict es (nameKv xs i)) : K1Inv b wd nd k0 L tL o2 c cw xs i ls led
theorem K1Inv.el {b wd nd k0 : Addr} {L : Int} {tL : Tok} {o2 : Obj} {c cw : List Ent} {xs : List (List Int × Addr × Value)} {i : Nat} {ls : Locs} {led : Led} {G : Locs → Led → Prop} (h9 : K1Inv b wd nd k0 L tL o2 c cw xs i ls led) (k9 : ∀ (es : Array DictEntry) (ep : Nat) (y : Option Value) (hI : IDict es (nameKv xs i)), G ([((Str.ofString "bag"), some (.ref b)), ((Str.ofString "letters"), some (.int L tL)), ((Str.ofString "words"), some (.ref wd)), ((Str.ofString "word"), y), ((Str.ofString "lefts"), none), ((Str.ofString "found"), none), ((Str.ofString "turn"), none), ((Str.ofString "code"), none), ((Str.ofString "letter"), none), ((Str.ofString "which"), none)]) ([[(nd, dictO es ep)], [(k0, o2)], c, cw])) : G ls led := by
  obtain ⟨es, ep, y, rfl, rfl, hI⟩ := h9
  exact k9 es ep y hI
theorem ValAre.keys {xs : List (List Int × Addr × Value)} {Kn : List (List Int × Int)} (h : ValAre xs Kn) : xs.map (·.1) = Kn.map (·.1) := by
  induction h with
  | nil => rfl
  | cons _ _ _ _ _ ih => simp [ih]
inductive K3Inv (b wd ld fd : Addr) (zm L : Int) (tL : Tok) (lvs : List Value) (cw tl : List Ent) (W : List (List Int)) (i : Nat) (ls : Locs) (led : Led) : Prop
  | mk (es : Array DictEntry) (ep : Nat) (xs : List (List Int × Addr × Value)) (ks : List Ent) (Kn : List (List Int × Int)) (cb : List Ent) (x1 x2 x3 x4 y9 : Option Value)
    (e1 : ls = [((Str.ofString "bag"), some (.ref b)), ((Str.ofString "letters"), some (.int L tL)), ((Str.ofString "words"), some (.ref wd)), ((Str.ofString "word"), x4), ((Str.ofString "lefts"), some (.ref ld)), ((Str.ofString "found"), some (.ref fd)), ((Str.ofString "turn"), x1), ((Str.ofString "code"), x2), ((Str.ofString "letter"), x3), ((Str.ofString "which"), y9)])
    (e2 : led = [[(fd, dictO es ep)], ks, [(ld, listOf (List.toArray lvs) 0)], tl, cb, cw]) (hT : TDict es xs) (hk : KeyTs xs ks) (hv : ValAre xs Kn) (hg : ∀ p ∈ Kn, (∃ c l ws, p.1 = [c, l] ∧ 1 ≤ l ∧ l ≤ L ∧ LeftOk L W c ws ∧ ws ++ [l] ∉ W) ∧ (p.2 = 0 ∨ p.2 = 1)) (hl : xs.length ≤ i) (hB : Bag b (zm + 1 + 3 * i) cb) : K3Inv b wd ld fd zm L tL lvs cw tl W i ls led
theorem K3Inv.el {b wd ld fd : Addr} {zm L : Int} {tL : Tok} {lvs : List Value} {cw tl : List Ent} {W : List (List Int)} {i : Nat} {ls : Locs} {led : Led} {G : Locs → Led → Prop} (h9 : K3Inv b wd ld fd zm L tL lvs cw tl W i ls led) (k9 : ∀ (es : Array DictEntry) (ep : Nat) (xs : List (List Int × Addr × Value)) (ks : List Ent) (Kn : List (List Int × Int)) (cb : List Ent) (x1 x2 x3 x4 y9 : Option Value) (hT : TDict es xs) (hk : KeyTs xs ks) (hv : ValAre xs Kn) (hg : ∀ p ∈ Kn, (∃ c l ws, p.1 = [c, l] ∧ 1 ≤ l ∧ l ≤ L ∧ LeftOk L W c ws ∧ ws ++ [l] ∉ W) ∧ (p.2 = 0 ∨ p.2 = 1)) (hl : xs.length ≤ i) (hB : Bag b (zm + 1 + 3 * i) cb), G ([((Str.ofString "bag"), some (.ref b)), ((Str.ofString "letters"), some (.int L tL)), ((Str.ofString "words"), some (.ref wd)), ((Str.ofString "word"), x4), ((Str.ofString "lefts"), some (.ref ld)), ((Str.ofString "found"), some (.ref fd)), ((Str.ofString "turn"), x1), ((Str.ofString "code"), x2), ((Str.ofString "letter"), x3), ((Str.ofString "which"), y9)]) ([[(fd, dictO es ep)], ks, [(ld, listOf (List.toArray lvs) 0)], tl, cb, cw])) : G ls led := by
  obtain ⟨es, ep, xs, ks, Kn, cb, x1, x2, x3, x4, y9, rfl, rfl, hT, hk, hv, hg, hl, hB⟩ := h9
  exact k9 es ep xs ks Kn cb x1 x2 x3 x4 y9 hT hk hv hg hl hB
set_option maxHeartbeats 16000000 in
theorem kerns_spec {b wd : Addr} {zm L : Int} {tL : Nat} {c cw : List Ent} {W : List (List Int)} (hb : Bag b zm c) (hz : zm < 900) (hL : 2 ≤ L) (hL2 : L ≤ 4) (hW : Words wd W cw) (hG : GoodW L W) (hWl : W.length ≤ 10) :
    Fn 2 435 [.ref b, .int L tL, .ref wd] [c, cw] fun r fp => ∃ kd Kn ck c', r = .ref kd ∧ GoodK L W Kn ∧ Kn.length ≤ 4 ∧ KernsC kd Kn ck ∧ Bag b (zm + 15) c' ∧ fp = [ck, c', cw] := by
  refine letG ?_; intro G9
  obtain ⟨hlo, esW, epW, xsW, tsW, ecw, hT, hX⟩ := hW
  unfold G9; clear G9
  have mW : (wd, dictO esW epW) ∈ cw := by rw [ecw]; exact .head _
  have mtW : ∀ y ∈ tsW, y ∈ cw := fun y h => by rw [ecw]; exact .tail _ h
  clear ecw
  refine fn_introC (binds := [((Str.ofString "bag"), .ref b), ((Str.ofString "letters"), .int L tL), ((Str.ofString "words"), .ref wd)]) (gl' := [((Str.ofString "range"), .type "range"), ((Str.ofString "sorted"), .builtin "sorted"), ((Str.ofString "len"), .builtin "len"), ((Str.ofString "_law_draw"), .ref 425)])
    (ls0 := [((Str.ofString "bag"), some (.ref b)), ((Str.ofString "letters"), some (.int L tL)), ((Str.ofString "words"), some (.ref wd)), ((Str.ofString "word"), none), ((Str.ofString "lefts"), none), ((Str.ofString "found"), none), ((Str.ofString "turn"), none), ((Str.ofString "code"), none), ((Str.ofString "letter"), none), ((Str.ofString "which"), none)]) (H := ?_)
  intro Γ K k0 cells hr hc hK hN hcells hkc
  refine letG ?_; intro G9
  obtain ⟨o1, rfl, ho1⟩ := hcells.one
  unfold G9; clear G9
  replace ho1 : o1.data = .cell none := ho1
  replace hkc := hkc (Str.ofString "names") k0 rfl
  clear hcells
  show WP Γ _ [((Str.ofString "names"), k0)] _ ([(k0, o1)] :: [c, cw]) _ _
  refine w_execs_cons <| w_Assign <| w_Dict0 fun _ _ => ?_
  rename_i nd hnd
  refine w_storeCell rfl hkc (by kcf_m) ho1 (fun o2 ho2 => ⟨_, by kcj_m, ?_⟩)
  clear ho1
  refine seq_next <| w_execs_cons ?_
  refine w_for4 ?_
  refine w_loc rfl ?_
  refine ⟨esW.size, _, _, K1Inv b wd nd k0 L tL o2 c cw xsW, _, IterOf.three (iter_dict (by kcf_m) hlo) (by intro _ _; rfl),
    drop_ (l := [[(nd, dictO #[] 0)], [(k0, o2)], c, cw]) (by kpf_close) rfl ⟨_, _, _, rfl, rfl, IDict.nil⟩, ?_, ?_, ?_⟩
  · rintro i ls led ⟨es, ep, y, rfl, rfl, hI⟩; exact by kcf_m
  · rintro i v own ls led K1 hi hP9 hI9
    apply dicN_el hP9; intro en hen
    apply hI9.el; intro es ep y hI
    rintro hK1 -
    obtain ⟨w, ha⟩ : ∃ w, W[i]? = some w := ⟨_, List.getElem?_eq_getElem (by rw [hT.size, hX.len] at hi; exact hi)⟩
    refine letG ?_; intro G9
    obtain ⟨wa, wvs, wt, hxi, hwm, hwv⟩ := hX.at ha
    unfold G9; clear G9
    refine letG ?_; intro G9
    obtain ⟨k', a', v', rfl, hxi'⟩ := hT.get hen
    unfold G9; clear G9
    rw [hxi] at hxi'
    cases hxi'
    have hwm := mtW _ hwm
    have hnl := nameKv_len xsW i
    rw [hT.size, hX.len] at hi
    refine w_assignName <| w_store (by assumption) (by kpt_turns) ?_
    refine w_execs_cons <| w_AssignSub <| w_loc rfl <| w_cell (by exact rfl) (by kcf_m) (by assumption) ?_
    refine w_Subscript <| w_loc rfl <| w_loc rfl ?_
    refine w_itemT (by kcf_m) hT (hX.keys fun y h => by simp [mtW y h]) (by kcf_m) hwv (atKey_at hT.2 (List.mem_of_getElem? hxi)) ?_ (by with_unfolding_all rfl) (by intro _; with_unfolding_all rfl)
    refine w_setI (by kcf_m) hI (by kdl_here) (fun es' ep' hI' => ⟨_, by kcj_m, ?_⟩)
    refine seq_next <| w_execs_nil ?_
    refine hK1 _ _ _ trivial <| drop_ (l := [[(nd, dictO es' ep')], [(k0, o2)], c, cw]) (by kpf_close) rfl ⟨_, _, _, rfl, rfl, ?_⟩
    rw [stored_absent (nameKv_none i)] at hI'
    rw [nameKv, hxi]
    exact hI'
  · rintro ls led hI9
    apply hI9.el; intro es ep y hI
    rw [hT.size, hX.len] at hI
    have hnl := nameKv_len xsW W.length
    have hnm := fun {p : Int × Value} (h : p ∈ nameKv xsW W.length) => nameKv_mem h
    refine seq_next <| w_execs_cons <| w_Assign <| w_BinOp ?_
    refine w_ListComp hc (gl' := []) (cl' := []) (CompOk.of rfl rfl rfl rfl rfl rfl (by intro p9; kqd_in)) ?_ (by intro _; rfl)
    refine w_CallName <| w_glob rfl <| w_callT <| w_items_cons <| w_int fun _ => w_items_cons <| w_BinOp <| w_loc rfl <| w_int fun _ => w_add fun _ => w_items_nil <| w_range2 fun _ _ => ?_
    refine ⟨L.toNat, _, fun _ => True, fun j ys led => ∃ ts, led = [[(nd, dictO es ep)], [(k0, o2)], c, cw, ts] ∧ (∀ v ∈ ys, LeftV L W ts cw v) ∧ ys.length = j ∧ j ≤ 4, iter_range (.head (.head _)) (small_one (by kdl_here) (by kdl_here) (by kdl_here) (by kdl_here)) (by rw [rangeSize_one]; split <;> lia),
      drop_ (l := [[(nd, dictO es ep)], [(k0, o2)], c, cw]) (l2 := [[(nd, dictO es ep)], [(k0, o2)], c, cw, []]) (by kpf_close) rfl ⟨[], rfl, (fun _ h => nomatch h), rfl, by lia⟩, ?_, ?_, ?_⟩
    · rintro j ys led ⟨ts, rfl, hl, rfl, hj⟩; exact ⟨trivial, by lia⟩
    · rintro Γc j v ys led K2 hrc ⟨mc, hcc⟩ hj ⟨t3, rfl⟩ ⟨ts, rfl, hl, rfl, hj4⟩ hK2
      refine w_Tuple <| w_items_cons <| w_loc rfl <| w_items_cons <| w_Tuple <| w_items_cons <| w_loc rfl <| w_items_nil <| w_newTuple (by kdl_here) fun _ => ?_
      refine w_items_nil <| w_newTuple (by kdl_here) fun _ => ?_
      rename_i pa a
      refine hK2 _ _ _ <| drop_ (l := [[(nd, dictO es ep)], [(k0, o2)], c, cw, [(a, tupO _)], [(pa, tupO _)], ts]) (l2 := [[(nd, dictO es ep)], [(k0, o2)], c, cw, (a, tupO _) :: (pa, tupO _) :: ts]) (by kpf_close) rfl ⟨_, rfl, fun v hv => ?_, by simp, by lia⟩
      rcases List.mem_append.mp hv with hv | hv
      · exact (hl v hv).mono fun x h => .tail _ (.tail _ h)
      · rw [List.mem_singleton.mp hv]
        exact ⟨_, _, _, _, _, _, rfl, .head _, .inl (.tail _ (.head _)), .cons _ _ .nil, by simp, by simp, .inl ⟨by lia, by lia, rfl⟩⟩
    · rintro D1 cnt1 ys1 led' ⟨ts1, rfl, hl1, hys1, -⟩
      refine w_ListComp hc (gl' := []) (cl' := [((Str.ofString "names"), k0)]) (CompOk.of rfl rfl rfl rfl rfl rfl (by intro p9; kqd_in)) ?_ (by intro _; rfl)
      refine w_CallName <| w_glob rfl <| w_callB <| w_items_cons <| w_cell (by exact rfl) (by kcf_m) (by assumption) ?_
      refine w_items_nil ?_
      refine w_sortedD (by kcf_m) hI hnd (by kdl_here) ?_
      intro D2 svs sns e2 hsi hsp _
      have hsl := hsp.length_eq
      have hsl2 := hsi.length
      rw [List.length_map] at hsl
      refine ⟨svs.length, _, _, fun j ys led => ∃ ts, led = [[(D2, listOf (List.toArray svs) e2)], [(D1, listOf (List.toArray ys1) cnt1)], [(nd, dictO es ep)], [(k0, o2)], c, cw, ts1, ts] ∧ (∀ v ∈ ys, LeftV L W ts cw v) ∧ ys.length = j ∧ j ≤ 10, iter_list (by kcf_m),
        drop_ (l := [[(D2, listOf (List.toArray svs) e2)], [(D1, listOf (List.toArray ys1) cnt1)], [(nd, dictO es ep)], [(k0, o2)], c, cw, ts1]) (l2 := [[(D2, listOf (List.toArray svs) e2)], [(D1, listOf (List.toArray ys1) cnt1)], [(nd, dictO es ep)], [(k0, o2)], c, cw, ts1, []]) (by kpf_close) rfl ⟨[], rfl, (fun _ h => nomatch h), rfl, by lia⟩, ?_, ?_, ?_⟩
      · rintro j ys led ⟨ts, rfl, hl, rfl, hj⟩; exact ⟨by kcf_m, by lia⟩
      · rintro Γc j v ys led K2 hrc ⟨mc, hcc⟩ hj hv3 ⟨ts, rfl, hl, rfl, hj4⟩ hK2
        refine letG ?_; intro G9
        obtain ⟨q, tq, rfl, hq⟩ := ints_all hsi hv3
        unfold G9; clear G9
        refine letG ?_; intro G9
        obtain ⟨p, hp, rfl⟩ := List.mem_map.mp (hsp.mem_iff.mp (List.mem_of_getElem? hq))
        unfold G9; clear G9
        refine letG ?_; intro G9
        obtain ⟨i, x, hi, hx, rfl⟩ := nameKv_mem hp
        unfold G9; clear G9
        obtain ⟨w, ha⟩ : ∃ w, W[i]? = some w := ⟨_, List.getElem?_eq_getElem hi⟩
        refine letG ?_; intro G9
        obtain ⟨wa, wvs, wt, hxi, hwm, hwv⟩ := hX.at ha
        unfold G9; clear G9
        rw [hx] at hxi
        cases hxi
        have hwm := mtW _ hwm
        have hw3 := (hG.1 w (List.mem_of_getElem? ha)).1
        refine w_Tuple <| w_items_cons <| w_loc rfl <| w_items_cons <| w_Subscript <| w_cell (by exact rfl) (by kcf_m) (by assumption) ?_
        refine w_loc rfl ?_
        refine w_itemI (by kcf_m) hI (nameKv_at hx _ hi) ?_ (by with_unfolding_all rfl) (by intro _; with_unfolding_all rfl)
        refine w_items_nil <| w_newTuple (by kdl_here) fun _ => ?_
        rename_i a
        refine hK2 _ _ _ <| drop_ (l := [[(D2, listOf (List.toArray svs) e2)], [(D1, listOf (List.toArray ys1) cnt1)], [(nd, dictO es ep)], [(k0, o2)], c, cw, ts1, [(a, tupO _)], ts]) (l2 := [[(D2, listOf (List.toArray svs) e2)], [(D1, listOf (List.toArray ys1) cnt1)], [(nd, dictO es ep)], [(k0, o2)], c, cw, ts1, (a, tupO [.int (20 + (i : Int)) tq, .ref wa]) :: ts]) (by kpf_close) rfl ⟨_, rfl, fun v hv => ?_, by simp, by lia⟩
        rcases List.mem_append.mp hv with hv | hv
        · exact (hl v hv).mono fun x h => .tail _ h
        · rw [List.mem_singleton.mp hv]
          exact ⟨_, _, _, _, _, _, rfl, .head _, .inr hwm, hwv, (fun e => by rw [e] at hw3; rcases hw3 with h | h <;> cases h), by lia, .inr ⟨i, ha, rfl⟩⟩
      · rintro D3 cnt3 ys3 led' ⟨ts3, rfl, hl3, hys3, hys3b⟩
        refine w_addL (by kcf_m) (by kcf_m) (by kdl_here) (fun ld => ?_)
        have hlefts : ∀ v ∈ ys1 ++ ys3, LeftV L W (ts1 ++ ts3) cw v := fun v hv => by
          rcases List.mem_append.mp hv with hv | hv
          · exact (hl1 v hv).mono fun x h => List.mem_append_left _ h
          · exact (hl3 v hv).mono fun x h => List.mem_append_right _ h
        have hlen : (ys1 ++ ys3).length ≤ 20 ∧ 0 < (ys1 ++ ys3).length := by rw [List.length_append]; lia
        generalize ys1 ++ ys3 = lvs at *
        refine w_store (by assumption) (by kpt_turns) ?_
        refine seq_next <| w_execs_cons <| w_Assign <| w_Dict0 fun _ _ => w_store (by assumption) (by kpt_turns) ?_
        refine seq_next <| w_execs_cons ?_
        rename_i fd hfd
        refine w_for4 ?_
        refine w_CallName <| w_glob rfl <| w_callT <| w_items_cons <| w_CallName <| w_glob rfl <| w_callK (by kd_p) ?_
        refine w_items_cons <| w_loc rfl <| w_items_cons <| w_int fun _ => w_items_nil ?_
        refine w_fn3_3 (draw_spec hb (by kdl_here) (by decide) (by decide)) (by kdl_here) (by kpf_close) ?_
        intro d td c1 hd0 hd1 hb1
        refine w_items_nil <| w_range1 fun _ _ _ => ?_
        refine ⟨d.toNat, _, fun _ => True, K3Inv b wd ld fd zm L tL lvs cw (ts1 ++ ts3) W, _, IterOf.three (iter_range (.head (.head _)) (small_one (by decide) (by decide) (by kdl_here) (by kdl_here)) (by rw [rangeSize_one]; split <;> lia)) (by intro _ _; rfl),
          drop_ (l := [[(fd, dictO #[] 0)], [(ld, listOf (List.toArray lvs) 0)], ts1, ts3, c1, cw]) (l2 := [[(fd, dictO #[] 0)], [], [(ld, listOf (List.toArray lvs) 0)], ts1 ++ ts3, c1, cw]) (by kpf_close) (by simp) ⟨_, _, [], [], [], c1, _, _, _, _, _, rfl, rfl, TDict.nil, (fun _ h => nomatch h), .nil, (fun _ h => nomatch h), by simp, by simpa using hb1⟩, fun _ _ _ _ => trivial, ?_, ?_⟩
        · rintro i v own ls led K1 hi hP9 hI9
          apply rngN_el hP9; intro t
          apply hI9.el; intro es4 ep4 xs ks Kn cb x1 x2 x3 x4 y9 hTK hkK hvK hgK hlK hB
          rintro hK1 -
          refine w_assignName <| w_store (by assumption) (by kpt_turns) ?_
          refine w_execs_cons <| w_AssignUn (w_Subscript <| w_loc rfl <| w_BinOp <| w_CallName <| w_glob rfl <| w_callK (by kd_p) ?_) rfl
          refine w_items_cons <| w_loc rfl <| w_items_cons <| w_int fun _ => w_items_nil ?_
          refine w_fn3_3 (draw_spec hB (by kdl_here) (by decide) (by decide)) (by kdl_here) (by kpf_close) ?_
          intro d2 td2 c2 hd20 hd21 hb2
          refine w_CallName <| w_glob rfl <| w_callB <| w_items_cons <| w_loc rfl <| w_items_nil <| w_lenL (by kcf_m) (by kdl_here) fun _ => ?_
          refine w_mod (by kdl_here) fun _ => ?_
          have hm0 : 0 ≤ d2.fmod (lvs.length : Int) := Int.fmod_nonneg_of_pos _ (by kdl_here)
          have hm1 : d2.fmod (lvs.length : Int) < lvs.length := Int.fmod_lt_of_pos _ (by kdl_here)
          generalize d2.fmod (lvs.length : Int) = kk at *
          obtain ⟨v5, hv5⟩ : ∃ v5, lvs[kk.toNat]? = some v5 := ⟨_, List.getElem?_eq_getElem (by kdl_here)⟩
          refine letG ?_; intro G9
          obtain ⟨la, pa, lc, lt, pvs, ws, rfl, m, mp, hp, hne, hz3, ok⟩ := hlefts v5 (List.mem_of_getElem? hv5)
          unfold G9; clear G9
          have hpl := hp.length
          refine w_subL (by kcf_m) (by kdl_here) (by kdl_here) hv5 ?_ (by with_unfolding_all rfl)
          refine w_assignTup (by kcf_m) (by exact rfl) (by exact rfl) ?_
          refine w_inOrder_cons rfl <| w_assignName <| w_store (by assumption) (by kpt_turns) ?_
          refine w_inOrder_cons rfl <| w_assignName <| w_store (by assumption) (by kpt_turns) ?_
          refine w_inOrder_nil <| seq_next <| w_execs_cons <| w_Assign <| w_BinOp <| w_int fun _ => w_CallName <| w_glob rfl <| w_callK (by kd_p) ?_
          refine w_items_cons <| w_loc rfl <| w_items_cons <| w_loc rfl <| w_items_nil ?_
          refine w_fn3_3 (draw_spec hb2 (by kdl_here) (by kdl_here) (by kdl_here)) (by kdl_here) (by kpf_close) ?_
          intro d6 td6 c6 hd60 hd61 hb6
          refine w_add fun _ => w_store (by assumption) (by kpt_turns) ?_
          refine seq_next <| w_execs_cons <| w_Assign <| w_CallName <| w_glob rfl <| w_callK (by kd_p) ?_
          refine w_items_cons <| w_loc rfl <| w_items_cons <| w_int fun _ => w_items_nil ?_
          refine w_fn3_3 (draw_spec hb6 (by kdl_here) (by decide) (by decide)) (by kdl_here) (by kpf_close) ?_
          intro d7 td7 c7 hd70 hd71 hb7
          have mp3 : (pa, tupO pvs) ∈ ts1 ∨ (pa, tupO pvs) ∈ ts3 ∨ (pa, tupO pvs) ∈ cw := by
            rcases mp with h | h
            · exact (List.mem_append.mp h).imp id .inl
            · exact .inr (.inr h)
          have hdk : d7 = 0 ∨ d7 = 1 := by lia
          refine w_store (by assumption) (by kpt_turns) ?_
          refine seq_next <| w_execs_cons <| w_If <| w_tCompare1 <| w_BinOp <| w_loc rfl <| w_Tuple <| w_items_cons <| w_loc rfl <| w_items_nil <| w_newTuple (by kdl_here) fun _ => ?_
          rename_i tl1 _ a9
          refine w_addT (vs := pvs) (ws := [.int (1 + d6) tl1]) (.of_mem (by rcases mp3 with h | h | h <;> simp [h])) (by kcf_m) (by show pvs.length + 1 ≤ 100000; lia) (fun e => absurd (List.eq_nil_of_length_eq_zero (by rw [← hpl, e]; rfl)) hne) (fun _ e => nomatch e) (fun _ _ tw => ?_)
          refine w_loc rfl ?_
          refine w_notinT (by kcf_m) hlo hT (hX.keys fun y h => by simp [mtW y h]) (by kcf_m) (hp.append (.cons _ _ .nil)) ?_
          rw [hX.has]
          by_cases hin : ws ++ [1 + d6] ∈ W
          · rw [decide_eq_true hin]
            refine w_truthyB <| ite_nT <| w_execs_nil <| seq_next <| w_execs_nil ?_
            exact hK1 _ _ _ trivial <| drop_ (l := [[(fd, dictO es4 ep4)], ks, [(ld, listOf (List.toArray lvs) 0)], ts1 ++ ts3, c7, cw]) (by kpf_close) rfl ⟨es4, ep4, xs, ks, Kn, c7, _, _, _, _, _, rfl, rfl, hTK, hkK, hvK, hgK, by lia, hb7.mono (by push_cast; lia)⟩
          · rw [decide_eq_false hin]
            refine w_truthyB <| ite_nF <| w_execs_cons <| w_AssignSub <| w_loc rfl <| w_loc rfl <| w_Tuple <| w_items_cons <| w_loc rfl <| w_items_cons <| w_loc rfl <| w_items_nil <| w_newTuple (by kdl_here) fun _ => ?_
            rename_i ka
            refine w_setT (by kcf_m) hTK (hkK.keys fun y h => by simp [h]) (by kcf_m) (.cons _ _ (.cons _ _ .nil)) (by kdl_here) (fun es6 ep6 hT6 => ⟨_, by kcj_m, ?_⟩)
            refine seq_next <| w_execs_nil <| seq_next <| w_execs_nil ?_
            have hst : (storedH xs [lc, 1 + d6] ka (.int d7 td7)).length ≤ i + 1 := by
              unfold storedH
              split
              · rw [List.length_map]; lia
              · rw [List.length_append, List.length_singleton]; lia
            exact hK1 _ _ _ trivial <| drop_ (l := [[(fd, dictO es6 ep6)], [(ka, tupO [.int lc lt, .int (1 + d6) tl1])], ks, [(ld, listOf (List.toArray lvs) 0)], ts1 ++ ts3, c7, cw]) (l2 := [[(fd, dictO es6 ep6)], (ka, tupO [.int lc lt, .int (1 + d6) tl1]) :: ks, [(ld, listOf (List.toArray lvs) 0)], ts1 ++ ts3, c7, cw]) (by kpf_close) rfl
              ⟨es6, ep6, _, _, kset Kn [lc, 1 + d6] d7, c7, _, _, _, _, _, rfl, rfl, hT6, hkK.put (fun x h => .tail _ h) (.head _) (.cons _ _ (.cons _ _ .nil)), hvK.set _ _ _ _, kset_good hgK ⟨_, _, _, rfl, by lia, by lia, ok, hin⟩ hdk, hst, hb7.mono (by push_cast; lia)⟩
        · rintro ls led hI9
          apply hI9.el; intro es4 ep4 xs ks Kn cb x1 x2 x3 x4 y9 hTK hkK hvK hgK hlK hB
          refine seq_next <| w_execs_cons <| w_Return <| w_loc rfl <| seq_ret ?_
          exact hK _ _ _ <| drop_ (l := [[(fd, dictO es4 ep4)], ks, cb, cw]) (l2 := [(fd, dictO es4 ep4) :: ks, cb, cw]) (by kpf_close) rfl ⟨fd, Kn, _, cb, rfl, ⟨hgK, by rw [← hvK.keys]; exact hTK.2⟩, by rw [← hvK.length]; lia, ⟨es4, ep4, xs, ks, hfd, rfl, hTK, hkK, hvK⟩, hB.mono (by kdl_here), rfl⟩


theorem is_size_spec {v : Int} {t : Tok} : Fn 2 127 [.int v t] [] fun r fp => r = .bool (decide (-1073741823 ≤ v ∧ v ≤ 1073741823)) ∧ fp = [] := by
  refine fn_intro (binds := [((Str.ofString "value"), .int v t)]) (gl' := [((Str.ofString "is_whole"), .ref 97), ((Str.ofString "MAX_DIMEN"), .int 1073741823 294)])
    (ls0 := [((Str.ofString "value"), some (.int v t))]) (H := ?_)
  intro Γ K hr hc hK hN
  refine w_execs_cons <| w_Return <| w_CallName <| w_glob rfl <| w_callK (by kd_p) ?_
  refine w_items_cons <| w_loc rfl <| w_items_cons <| w_UnaryOp <| w_glob rfl <| w_neg fun _ => w_items_cons <| w_glob rfl <| w_items_nil ?_
  refine w_fn0_0 is_whole_spec (by kdl_here) (by kpf_close) ?_
  refine seq_ret ?_
  exact hK _ _ _ <| done_ (by kpf_close) ⟨rfl, rfl⟩
set_option maxHeartbeats 4000000 in
theorem check_sizes_spec {a : Addr} {vs : List Value} {ns : List Int} {c : List Ent} (m : (a, tupO vs) ∈ c) (hi : IntsAre vs ns) (hb : ∀ n ∈ ns, -1073741823 ≤ n ∧ n ≤ 1073741823) : Fn 3 134 [.ref a] [c] fun r fp => r = .none ∧ fp = [c] := by
  refine fn_intro (binds := [((Str.ofString "sizes"), .ref a)]) (gl' := [((Str.ofString "is_size"), .ref 127)])
    (ls0 := [((Str.ofString "sizes"), some (.ref a)), ((Str.ofString "size"), none)]) (H := ?_)
  intro Γ K hr hc hK hN
  refine w_execs_cons ?_
  refine w_for4 ?_
  refine w_loc rfl ?_
  refine ⟨vs.length, _, _, fun _ ls led => ∃ y, ls = [((Str.ofString "sizes"), some (.ref a)), ((Str.ofString "size"), y)] ∧ led = [c], _, IterOf.three (iter_tup (by kcf_m)) (by intro _ _; rfl), drop_ (l := [c]) (by kpf_close) rfl ⟨_, rfl, rfl⟩, ?_, ?_, ?_⟩
  · rintro i ls led ⟨y, rfl, rfl⟩; exact by kcf_m
  · rintro i v own ls led K1 hi1 ⟨hv1, rfl⟩ ⟨y, rfl, rfl⟩ hK1 -
    refine letG ?_; intro G9
    obtain ⟨q, tq, rfl, hq⟩ := ints_all hi hv1
    unfold G9; clear G9
    have hq := hb q (List.mem_of_getElem? hq)
    refine w_assignName <| w_store (by assumption) (by kpt_turns) ?_
    refine w_execs_cons <| w_If <| w_tNot <| w_tValue <| w_CallName <| w_glob rfl <| w_callK (by kd_p) ?_
    refine w_items_cons <| w_loc rfl <| w_items_nil ?_
    refine w_fn0_0 is_size_spec (by kdl_here) (by kpf_close) ?_
    rw [decide_eq_true hq]
    refine w_truthyB <| ite_nT <| w_execs_nil <| seq_next <| w_execs_nil ?_
    exact hK1 _ _ _ trivial <| drop_ (l := [c]) (by kpf_close) rfl ⟨_, rfl, rfl⟩
  · rintro ls led ⟨y, rfl, rfl⟩
    refine seq_next <| w_execs_nil ?_
    exact hN _ _ <| done_ (by kpf_close) ⟨rfl, rfl⟩
/-- a char's row -/
inductive CharG (ts : List Ent) (many : Int) (v : Value) : Prop
  | mk (a : Addr) (w s q : Int) (t0 t1 t2 t3 t4 t5 : Tok) (e : v = .ref a) (m : (a, tupO [.int w t0, .int 0 t1, .int 0 t2, .int 0 t3, .int s t4, .int q t5]) ∈ ts) (w0 : -1073741823 ≤ w) (w1 : w ≤ 1073741823) (hs : s = 0 ∨ s = 1) (q0 : 0 ≤ q) (q1 : q ≤ 255) (hq : s = 1 → q < many) : CharG ts many v
set_option maxHeartbeats 8000000 in
theorem check_chars_spec {dc : Addr} {ces : Array DictEntry} {cep : Nat} {kvs : List (Int × Value)} {c : List Ent} {many : Int} {tm : Tok} (m : (dc, dictO ces cep) ∈ c) (hI : IDict ces kvs) (lo : (dc == sysModules) = false) (hg : ∀ p ∈ kvs, 0 ≤ p.1 ∧ p.1 ≤ 255 ∧ CharG c many p.2) : Fn 4 148 [.ref dc, .int many tm] [c] fun r fp => r = .none ∧ fp = [c] := by
  refine fn_intro (binds := [((Str.ofString "chars"), .ref dc), ((Str.ofString "many"), .int many tm)]) (gl' := [((Str.ofString "is_whole"), .ref 97), ((Str.ofString "isinstance"), .builtin "isinstance"), ((Str.ofString "tuple"), .type "tuple"), ((Str.ofString "len"), .builtin "len"), ((Str.ofString "check_sizes"), .ref 134), ((Str.ofString "PLAIN_SORT"), .int 0 333), ((Str.ofString "PIECES_SORT"), .int 3 336), ((Str.ofString "PROGRAM_SORT"), .int 1 334)])
    (ls0 := [((Str.ofString "chars"), some (.ref dc)), ((Str.ofString "many"), some (.int many tm)), ((Str.ofString "code"), none), ((Str.ofString "row"), none), ((Str.ofString "sort"), none), ((Str.ofString "rest"), none)]) (H := ?_)
  intro Γ K hr hc hK hN
  refine w_execs_cons ?_
  refine w_for4 ?_
  refine w_CallAttr <| w_loc rfl <| w_itemsM (by kcf_m) ?_
  refine w_callBm0 ?_
  refine w_items (by kcf_m) hI lo (fun vw => ?_)
  refine ⟨kvs.length, _, _, fun _ ls led => ∃ y1 y2 y3 y4, ls = [((Str.ofString "chars"), some (.ref dc)), ((Str.ofString "many"), some (.int many tm)), ((Str.ofString "code"), y1), ((Str.ofString "row"), y2), ((Str.ofString "sort"), y3), ((Str.ofString "rest"), y4)] ∧ led = [c], _, iter_items (d := dc) (ep := cep) (by kcf_m) hI (by kcf_m), drop_ (l := [c]) (by kpf_close) rfl ⟨_, _, _, _, rfl, rfl⟩, ?_, ?_, ?_⟩
  · rintro i ls led ⟨y1, y2, y3, y4, rfl, rfl⟩; exact by kcf_m
  · rintro i v own ls led K1 hi1 ⟨pa, k, x, t, hkx, rfl, rfl⟩ ⟨y1, y2, y3, y4, rfl, rfl⟩ hK1 -
    refine letG ?_; intro G9
    obtain ⟨hk0, hk1, a, w, s, q, t0, t1, t2, t3, t4, t5, rfl, ma, w0, w1, hs, q0, q1, hq⟩ := hg _ (List.mem_of_getElem? hkx)
    unfold G9; clear G9
    refine w_assignTup (by kcf_m) (by exact rfl) (by exact rfl) ?_
    refine w_inOrder_cons rfl <| w_assignName <| w_store (by assumption) (by kpt_turns) ?_
    refine w_inOrder_cons rfl <| w_assignName <| w_store (by assumption) (by kpt_turns) ?_
    refine w_inOrder_nil <| w_execs_cons <| w_If <| w_tBoolOp <| w_allOr <| w_tNot <| w_tValue <| w_CallName <| w_glob rfl <| w_callK (by kd_p) ?_
    refine w_items_cons <| w_loc rfl <| w_items_cons <| w_int fun _ => w_items_cons <| w_int fun _ => w_items_nil ?_
    refine w_fn0_0 is_whole_spec (by kdl_here) (by kpf_close) ?_
    rw [decide_eq_true (⟨hk0, hk1⟩ : 0 ≤ k ∧ k ≤ 255)]
    refine w_truthyB <| ite_nT <| w_allOr <| w_tNot <| w_tValue <| w_CallName <| w_glob rfl <| w_callB <| w_items_cons <| w_loc rfl <| w_items_cons <| w_glob rfl <| w_items_nil <| w_isTupTup (by kcf_m) ?_
    refine w_truthyB <| ite_nT <| w_allOr <| w_tCompare1 <| w_CallName <| w_glob rfl <| w_callB <| w_items_cons <| w_loc rfl <| w_items_nil <| w_lenT (by kcf_m) (by kdl_here) fun _ => ?_
    refine w_int fun _ => w_ne <| w_truthyB ?_
    refine ite_N (fun h => absurd rfl h) (fun _ => ?_)
    refine w_allOrNil <| ite_F <| w_execs_nil <| seq_next <| w_execs_cons <| w_Expr <| w_CallName <| w_glob rfl <| w_callK (by kd_p) ?_
    refine w_items_cons <| w_Subscript <| w_loc rfl <| w_Slice <| w_partNone <| w_partSome <| w_int fun _ => w_partNone <| all_sl fun _ => ?_
    refine w_sliceT (k := 4) (by kcf_m) (by kcf_m) rfl (Nat.le_of_ble_eq_true rfl) (fun h => absurd h (by simp)) (fun _ a4 => ?_) (by with_unfolding_all rfl) (by intro _; with_unfolding_all rfl)
    refine w_items_nil ?_
    refine w_fn0_0 (check_sizes_spec (c := [(a4, tupO [.int w t0, .int 0 t1, .int 0 t2, .int 0 t3])]) (.head _) (.cons _ _ (.cons _ _ (.cons _ _ (.cons _ _ .nil)))) (by intro n hn; simp at hn; lia)) (by kdl_here) (by kpf_close) ?_
    refine none_and <| seq_next <| w_execs_cons ?_
    refine w_AssignSw (oa := y3) (ob := y4) rfl rfl ?_ ?hw
    case hw =>
      intro env h1 h2 h3
      unfold swappedStores
      simp only [h1, h2, h3, List.filterMap]
      kernel_rfl
    refine w_Tuple <| w_items_cons <| w_Subscript <| w_loc rfl <| w_int fun _ => w_subT (by kcf_m) (by decide) (by decide) (by exact rfl) ?_
    refine w_items_cons <| w_Subscript <| w_loc rfl <| w_int fun _ => w_subT (by kcf_m) (by decide) (by decide) (by exact rfl) ?_
    refine w_items_nil <| w_newTuple (by kdl_here) fun _ => ?_
    refine ⟨_, _, _, rfl, At.head (.head _), ?_⟩
    refine w_store (by assumption) (by kpt_turns) ?_
    refine w_store (by assumption) (by kpt_turns) ?_
    refine seq_next <| w_execs_cons <| w_If <| w_tNot <| w_tValue <| w_CallName <| w_glob rfl <| w_callK (by kd_p) ?_
    refine w_items_cons <| w_loc rfl <| w_items_cons <| w_glob rfl <| w_items_cons <| w_glob rfl <| w_items_nil ?_
    refine w_fn0_0 is_whole_spec (by kdl_here) (by kpf_close) ?_
    rw [decide_eq_true (by lia : 0 ≤ s ∧ s ≤ 3)]
    refine w_truthyB <| ite_nT <| w_execs_nil <| seq_next <| w_execs_cons <| w_If <| w_tCompare1 <| w_loc rfl <| w_glob rfl <| w_eq <| w_truthyB ?_
    refine ite_D (fun h => absurd h (by kdl_here)) (fun _ => ?_)
    refine w_execs_cons <| w_If <| w_tBoolOp <| w_allOr <| w_tNot <| w_tValue <| w_CallName <| w_glob rfl <| w_callK (by kd_p) ?_
    refine w_items_cons <| w_loc rfl <| w_items_cons <| w_int fun _ => w_items_cons <| w_int fun _ => w_items_nil ?_
    refine w_fn0_0 is_whole_spec (by kdl_here) (by kpf_close) ?_
    rw [decide_eq_true (⟨q0, q1⟩ : 0 ≤ q ∧ q ≤ 255)]
    refine w_truthyB <| ite_nT <| w_allOr <| w_tBoolOp <| w_allAnd <| w_tCompare1 <| w_loc rfl <| w_glob rfl <| w_eq <| w_truthyB ?_
    refine ite_D (fun h => ?_) (fun h => ?_)
    · refine w_allAnd <| w_tCompare1 <| w_loc rfl <| w_loc rfl <| w_ge <| w_truthyB ?_
      refine ite_D (fun h2 => absurd (hq h) (by kdl_here)) (fun _ => ?_)
      refine ite_F <| w_allOrNil <| ite_F <| w_execs_nil <| seq_next <| w_execs_nil <| seq_next <| w_execs_nil ?_
      exact hK1 _ _ _ trivial <| drop_ (l := [c]) (by kpf_close) rfl ⟨_, _, _, _, rfl, rfl⟩
    · refine ite_F <| w_allOrNil <| ite_F <| w_execs_nil <| seq_next <| w_execs_nil <| seq_next <| w_execs_nil ?_
      exact hK1 _ _ _ trivial <| drop_ (l := [c]) (by kpf_close) rfl ⟨_, _, _, _, rfl, rfl⟩
  · rintro ls led ⟨y1, y2, y3, y4, rfl, rfl⟩
    refine seq_next <| w_execs_nil ?_
    exact hN _ _ <| done_ (by kpf_close) ⟨rfl, rfl⟩

set_option maxHeartbeats 8000000 in
theorem check_larger_spec {dc : Addr} {ces : Array DictEntry} {cep : Nat} {kvs : List (Int × Value)} {c : List Ent} {many : Int} (m : (dc, dictO ces cep) ∈ c) (hI : IDict ces kvs) (lo : (dc == sysModules) = false) (hg : ∀ p ∈ kvs, 0 ≤ p.1 ∧ p.1 ≤ 255 ∧ CharG c many p.2) : Fn 1 155 [.ref dc] [c] fun r fp => r = .none ∧ fp = [c] := by
  refine fn_intro (binds := [((Str.ofString "chars"), .ref dc)]) (gl' := [((Str.ofString "LARGER_SORT"), .int 2 335), ((Str.ofString "len"), .builtin "len")])
    (ls0 := [((Str.ofString "chars"), some (.ref dc)), ((Str.ofString "code"), none), ((Str.ofString "far"), none), ((Str.ofString "turns"), none)]) (H := ?_)
  intro Γ K hr hc hK hN
  refine w_execs_cons ?_
  refine w_for4 ?_
  refine w_loc rfl ?_
  refine ⟨ces.size, _, _, fun _ ls led => ∃ y1 y2 y3, ls = [((Str.ofString "chars"), some (.ref dc)), ((Str.ofString "code"), y1), ((Str.ofString "far"), y2), ((Str.ofString "turns"), y3)] ∧ led = [c], _, IterOf.three (iter_dict (by kcf_m) lo) (by intro _ _; rfl), drop_ (l := [c]) (by kpf_close) rfl ⟨_, _, _, rfl, rfl⟩, ?_, ?_, ?_⟩
  · rintro i ls led ⟨y1, y2, y3, rfl, rfl⟩; exact by kcf_m
  · rintro i v own ls led K1 hi1 ⟨⟨en, hen, rfl⟩, rfl⟩ ⟨y1, y2, y3, rfl, rfl⟩ hK1 -
    refine letG ?_; intro G9
    obtain ⟨k, t, x, rfl, hkx⟩ := hI.1.get i en (by rw [Array.getElem?_toList]; exact hen)
    unfold G9; clear G9
    refine letG ?_; intro G9
    obtain ⟨hk0, hk1, a, w, s, q, t0, t1, t2, t3, t4, t5, rfl, ma, w0, w1, hs, q0, q1, hq⟩ := hg _ (List.mem_of_getElem? hkx)
    unfold G9; clear G9
    have hat : valueAt kvs k = some (.ref a) := valueAt_of_get hI.2 hkx
    refine w_assignName <| w_store (by assumption) (by kpt_turns) ?_
    refine w_execs_cons ?_
    refine w_AssignSw (oa := y2) (ob := y3) rfl rfl ?_ ?hw
    case hw =>
      intro env h1 h2 h3
      unfold swappedStores
      simp only [h1, h2, h3, List.filterMap]
      kernel_rfl
    refine w_Tuple <| w_items_cons <| w_loc rfl <| w_items_cons <| w_int fun _ => w_items_nil <| w_newTuple (by kdl_here) fun _ => ?_
    refine ⟨_, _, _, rfl, At.head (.head _), ?_⟩
    refine w_store (by assumption) (by kpt_turns) ?_
    refine w_store (by assumption) (by kpt_turns) ?_
    refine seq_next <| w_execs_cons ?_
    refine w_while2 (fun _ ls led => ∃ y1 y3, ls = [((Str.ofString "chars"), some (.ref dc)), ((Str.ofString "code"), y1), ((Str.ofString "far"), some (.int k t)), ((Str.ofString "turns"), y3)] ∧ led = [c]) 0 (drop_ (l := [c]) (by kpf_close) rfl ⟨_, _, rfl, rfl⟩) ?_
    rintro _ ls led K2 ⟨y1, y3, rfl, rfl⟩ - - -
    refine w_tBoolOp <| w_allAnd <| w_tCompare1 <| w_loc rfl <| w_loc rfl ?_
    refine w_inI (by kcf_m) hI lo ?_
    rw [hat, Option.isSome_some]
    refine w_truthyB <| ite_T <| w_allAnd <| w_tCompare1 <| w_Subscript <| w_Subscript <| w_loc rfl <| w_loc rfl ?_
    refine w_itemI (by kcf_m) hI hat ?_ (by with_unfolding_all rfl) (by intro _; with_unfolding_all rfl)
    refine w_int fun _ => w_subT (by kcf_m) (by decide) (by decide) (by exact rfl) ?_
    refine w_glob rfl <| w_eq <| w_truthyB ?_
    refine ite_D (fun h => absurd h (by kdl_here)) (fun _ => ?_)
    refine ite_F <| seq_next <| w_execs_nil ?_
    exact hK1 _ _ _ trivial <| drop_ (l := [c]) (by kpf_close) rfl ⟨_, _, _, rfl, rfl⟩
  · rintro ls led ⟨y1, y2, y3, rfl, rfl⟩
    refine seq_next <| w_execs_nil ?_
    exact hN _ _ <| done_ (by kpf_close) ⟨rfl, rfl⟩


/-- a program's row -/
inductive RowG (ts : List Ent) (kvs : List (Int × Value)) (many : Nat) (i : Nat) (v : Value) : Prop
  | mk (a : Addr) (s f o r : Int) (t0 t1 t2 t3 : Tok) (e : v = .ref a) (m : (a, tupO [.int s t0, .int f t1, .int o t2, .int r t3]) ∈ ts) (hs : (s = 0 ∧ i + 1 < many) ∨ s = 128) (f0 : 0 ≤ f) (f1 : f ≤ 255) (hf : (valueAt kvs f).isSome) (r0 : 0 ≤ r) (r1 : r ≤ 255) (ho : (o = 0 ∧ (valueAt kvs r).isSome) ∨ (o = 128 ∧ r ≤ 1)) : RowG ts kvs many i v
inductive PInv (tp kt dc : Addr) (tb : Tok) (c : List Ent) (pvs : List Value) (tl : Tok) (i : Nat) (ls : Locs) (led : Led) : Prop
  | mk (y1 y2 y3 y4 y5 y6 y7 : Option Value) (e1 : ls = [((Str.ofString "program"), some (.ref tp)), ((Str.ofString "kerns"), some (.ref kt)), ((Str.ofString "chars"), some (.ref dc)), ((Str.ofString "boundary"), some (.int 256 tb)), ((Str.ofString "many"), some (.int pvs.length tl)), ((Str.ofString "place"), y1), ((Str.ofString "row"), y2), ((Str.ofString "octet"), y3), ((Str.ofString "skip"), y4), ((Str.ofString "following"), y5), ((Str.ofString "op"), y6), ((Str.ofString "rest"), y7)]) (e2 : led = [c]) : PInv tp kt dc tb c pvs tl i ls led
theorem PInv.el {tp kt dc : Addr} {tb : Tok} {c : List Ent} {pvs : List Value} {tl : Tok} {i : Nat} {ls : Locs} {led : Led} {G : Locs → Led → Prop} (h9 : PInv tp kt dc tb c pvs tl i ls led) (k9 : ∀ (y1 y2 y3 y4 y5 y6 y7 : Option Value), G ([((Str.ofString "program"), some (.ref tp)), ((Str.ofString "kerns"), some (.ref kt)), ((Str.ofString "chars"), some (.ref dc)), ((Str.ofString "boundary"), some (.int 256 tb)), ((Str.ofString "many"), some (.int pvs.length tl)), ((Str.ofString "place"), y1), ((Str.ofString "row"), y2), ((Str.ofString "octet"), y3), ((Str.ofString "skip"), y4), ((Str.ofString "following"), y5), ((Str.ofString "op"), y6), ((Str.ofString "rest"), y7)]) ([c])) : G ls led := by
  obtain ⟨y1, y2, y3, y4, y5, y6, y7, rfl, rfl⟩ := h9
  exact k9 y1 y2 y3 y4 y5 y6 y7
inductive QInv (tp kt dc a : Addr) (tb : Tok) (c : List Ent) (pvs : List Value) (tl : Tok) (i : Nat) (t : Tok) (_j : Nat) (ls : Locs) (led : Led) : Prop
  | mk (y3 y4 y5 y6 y7 : Option Value) (e1 : ls = [((Str.ofString "program"), some (.ref tp)), ((Str.ofString "kerns"), some (.ref kt)), ((Str.ofString "chars"), some (.ref dc)), ((Str.ofString "boundary"), some (.int 256 tb)), ((Str.ofString "many"), some (.int pvs.length tl)), ((Str.ofString "place"), some (.int i t)), ((Str.ofString "row"), some (.ref a)), ((Str.ofString "octet"), y3), ((Str.ofString "skip"), y4), ((Str.ofString "following"), y5), ((Str.ofString "op"), y6), ((Str.ofString "rest"), y7)]) (e2 : led = [c]) : QInv tp kt dc a tb c pvs tl i t _j ls led
theorem QInv.el {tp kt dc a : Addr} {tb : Tok} {c : List Ent} {pvs : List Value} {tl : Tok} {i : Nat} {t : Tok} {_j : Nat} {ls : Locs} {led : Led} {G : Locs → Led → Prop} (h9 : QInv tp kt dc a tb c pvs tl i t _j ls led) (k9 : ∀ (y3 y4 y5 y6 y7 : Option Value), G ([((Str.ofString "program"), some (.ref tp)), ((Str.ofString "kerns"), some (.ref kt)), ((Str.ofString "chars"), some (.ref dc)), ((Str.ofString "boundary"), some (.int 256 tb)), ((Str.ofString "many"), some (.int pvs.length tl)), ((Str.ofString "place"), some (.int i t)), ((Str.ofString "row"), some (.ref a)), ((Str.ofString "octet"), y3), ((Str.ofString "skip"), y4), ((Str.ofString "following"), y5), ((Str.ofString "op"), y6), ((Str.ofString "rest"), y7)]) ([c])) : G ls led := by
  obtain ⟨y3, y4, y5, y6, y7, rfl, rfl⟩ := h9
  exact k9 y3 y4 y5 y6 y7
set_option maxHeartbeats 8000000 in
theorem check_program_spec {dc tp kt : Addr} {ces : Array DictEntry} {cep : Nat} {kvs : List (Int × Value)} {pvs : List Value} {k1 k2 : Value} {c : List Ent} {tb : Tok} (m : (dc, dictO ces cep) ∈ c) (m2 : (tp, tupO pvs) ∈ c) (m3 : (kt, tupO [k1, k2]) ∈ c) (hI : IDict ces kvs) (lo : (dc == sysModules) = false) (hz : pvs.length ≤ 900) (hg : ∀ (i : Nat) (v : Value), pvs[i]? = some v → RowG c kvs pvs.length i v) :
    Fn 2 162 [.ref tp, .ref kt, .ref dc, .int 256 tb] [c] fun r fp => r = .none ∧ fp = [c] := by
  refine fn_intro (binds := [((Str.ofString "program"), .ref tp), ((Str.ofString "kerns"), .ref kt), ((Str.ofString "chars"), .ref dc), ((Str.ofString "boundary"), .int 256 tb)]) (gl' := [((Str.ofString "is_whole"), .ref 97), ((Str.ofString "isinstance"), .builtin "isinstance"), ((Str.ofString "tuple"), .type "tuple"), ((Str.ofString "len"), .builtin "len"), ((Str.ofString "enumerate"), .type "enumerate"), ((Str.ofString "STOP_SKIP"), .int 128 341), ((Str.ofString "KERN_OP"), .int 128 342)])
    (ls0 := [((Str.ofString "program"), some (.ref tp)), ((Str.ofString "kerns"), some (.ref kt)), ((Str.ofString "chars"), some (.ref dc)), ((Str.ofString "boundary"), some (.int 256 tb)), ((Str.ofString "many"), none), ((Str.ofString "place"), none), ((Str.ofString "row"), none), ((Str.ofString "octet"), none), ((Str.ofString "skip"), none), ((Str.ofString "following"), none), ((Str.ofString "op"), none), ((Str.ofString "rest"), none)]) (H := ?_)
  intro Γ K hr hc hK hN
  refine w_execs_cons <| w_Assign <| w_CallName <| w_glob rfl <| w_callB <| w_items_cons <| w_loc rfl <| w_items_nil <| w_lenT (by kcf_m) (by kdl_here) fun _ => ?_
  refine w_store (by assumption) (by kpt_turns) ?_
  refine seq_next <| w_execs_cons ?_
  rename_i tl
  refine w_for4 ?_
  refine w_CallName <| w_glob rfl <| w_callT <| w_items_cons <| w_loc rfl <| w_items_nil ?_
  refine w_enumT (by kcf_m) (fun e it oi he h1 h2 h3 => ?_)
  refine ⟨pvs.length, _, _, PInv tp kt dc tb c pvs tl, _, iter_enumT (by kcf_m) he h1 h2 h3, drop_ (l := [c]) (by kpf_close) rfl ⟨_, _, _, _, _, _, _, rfl, rfl⟩, ?_, ?_, ?_⟩
  · rintro i ls led ⟨y1, y2, y3, y4, y5, y6, y7, rfl, rfl⟩; exact by kcf_m
  · rintro i v own ls led K1 hi1 hP9 hI9
    apply enu_el hP9; intro pa x t hx
    apply hI9.el; intro y1 y2 y3 y4 y5 y6 y7
    rintro hK1 -
    refine letG ?_; intro G9
    obtain ⟨a, s, f, o, r, t0, t1, t2, t3, rfl, ma, hs, f0, f1, hf, r0, r1, ho⟩ := hg i x hx
    unfold G9; clear G9
    refine w_assignTup (by kcf_m) (by exact rfl) (by exact rfl) ?_
    refine w_inOrder_cons rfl <| w_assignName <| w_store (by assumption) (by kpt_turns) ?_
    refine w_inOrder_cons rfl <| w_assignName <| w_store (by assumption) (by kpt_turns) ?_
    refine w_inOrder_nil <| w_execs_cons <| w_If <| w_tBoolOp <| w_allOr <| w_tNot <| w_tValue <| w_CallName <| w_glob rfl <| w_callB <| w_items_cons <| w_loc rfl <| w_items_cons <| w_glob rfl <| w_items_nil <| w_isTupTup (by kcf_m) ?_
    refine w_truthyB <| ite_nT <| w_allOr <| w_tCompare1 <| w_CallName <| w_glob rfl <| w_callB <| w_items_cons <| w_loc rfl <| w_items_nil <| w_lenT (by kcf_m) (by kdl_here) fun _ => ?_
    refine w_int fun _ => w_ne <| w_truthyB ?_
    refine ite_N (fun h => absurd rfl h) (fun _ => ?_)
    refine w_allOrNil <| ite_F <| w_execs_nil <| seq_next <| w_execs_cons ?_
    refine w_for4 ?_
    refine w_loc rfl ?_
    have hoct : IntsAre [Value.int s t0, .int f t1, .int o t2, .int r t3] [s, f, o, r] := .cons _ _ (.cons _ _ (.cons _ _ (.cons _ _ .nil)))
    have hob : ∀ q ∈ [s, f, o, r], 0 ≤ q ∧ q ≤ 255 := fun q hq => by simp at hq; lia
    refine ⟨4, _, _, QInv tp kt dc a tb c pvs tl i t, _, IterOf.three (iter_tup (vs := [.int s t0, .int f t1, .int o t2, .int r t3]) (by kcf_m)) (by intro _ _; rfl), drop_ (l := [c]) (by kpf_close) rfl ⟨_, _, _, _, _, rfl, rfl⟩, ?_, ?_, ?_⟩
    · rintro i ls led ⟨y3, y4, y5, y6, y7, rfl, rfl⟩; exact by kcf_m
    · rintro j v own ls led K2 hj hP9 hI9
      apply lstN_el hP9; intro hv1
      apply hI9.el; intro y3 y4 y5 y6 y7
      rintro hK2 -
      refine letG ?_; intro G9
      obtain ⟨q, tq, rfl, hq⟩ := ints_all hoct hv1
      unfold G9; clear G9
      have hq := hob q (List.mem_of_getElem? hq)
      refine w_assignName <| w_store (by assumption) (by kpt_turns) ?_
      refine w_execs_cons <| w_If <| w_tNot <| w_tValue <| w_CallName <| w_glob rfl <| w_callK (by kd_p) ?_
      refine w_items_cons <| w_loc rfl <| w_items_cons <| w_int fun _ => w_items_cons <| w_int fun _ => w_items_nil ?_
      refine w_fn0_0 is_whole_spec (by kdl_here) (by kpf_close) ?_
      rw [decide_eq_true hq]
      refine w_truthyB <| ite_nT <| w_execs_nil <| seq_next <| w_execs_nil ?_
      exact hK2 _ _ _ trivial <| drop_ (l := [c]) (by kpf_close) rfl ⟨_, _, _, _, _, rfl, rfl⟩
    · rintro ls led hI9
      apply hI9.el; intro y3 y4 y5 y6 y7
      have fin : ∀ ls', (∃ y3 y4 y5 y6 y7, ls' = [((Str.ofString "program"), some (.ref tp)), ((Str.ofString "kerns"), some (.ref kt)), ((Str.ofString "chars"), some (.ref dc)), ((Str.ofString "boundary"), some (.int 256 tb)), ((Str.ofString "many"), some (.int pvs.length tl)), ((Str.ofString "place"), some (.int i t)), ((Str.ofString "row"), some (.ref a)), ((Str.ofString "octet"), y3), ((Str.ofString "skip"), y4), ((Str.ofString "following"), y5), ((Str.ofString "op"), y6), ((Str.ofString "rest"), y7)]) → K1 .next ls' [c] := by
        rintro ls' ⟨y3, y4, y5, y6, y7, rfl⟩
        exact hK1 _ _ _ trivial <| drop_ (l := [c]) (by kpf_close) rfl ⟨_, _, _, _, _, _, _, rfl, rfl⟩
      refine seq_next <| w_execs_cons <| w_AssignUn (w_loc rfl <| w_assignTup (by kcf_m) (by exact rfl) (by exact rfl) ?_) rfl
      refine w_inOrder_cons rfl <| w_assignName <| w_store (by assumption) (by kpt_turns) ?_
      refine w_inOrder_cons rfl <| w_assignName <| w_store (by assumption) (by kpt_turns) ?_
      refine w_inOrder_cons rfl <| w_assignName <| w_store (by assumption) (by kpt_turns) ?_
      refine w_inOrder_cons rfl <| w_assignName <| w_store (by assumption) (by kpt_turns) ?_
      refine w_inOrder_nil <| seq_next <| w_execs_cons <| w_If <| w_tCompare1 <| w_loc rfl <| w_glob rfl <| w_gt <| w_truthyB ?_
      refine ite_D (fun h => absurd h (by kdl_here)) (fun _ => ?_)
      refine w_execs_nil <| seq_next <| w_execs_cons <| w_If <| w_tBoolOp <| w_allAnd <| w_tCompare1 <| w_loc rfl <| w_loc rfl <| w_ne <| w_truthyB ?_
      refine ite_N (fun _ => ?_) (fun h => absurd h (by kdl_here))
      refine w_allAnd <| w_tCompare1 <| w_loc rfl <| w_loc rfl ?_
      refine w_notinI (by kcf_m) hI lo ?_
      rw [hf]
      refine w_truthyB <| ite_nT <| ite_F <| w_execs_nil <| seq_next <| w_execs_cons <| w_If <| w_tBoolOp <| w_allOr <| w_tBoolOp <| w_allAnd <| w_tCompare1 <| w_loc rfl <| w_glob rfl <| w_lt <| w_truthyB ?_
      rcases ho with ⟨rfl, hr⟩ | ⟨rfl, hr⟩
      · refine ite_D (fun _ => ?_) (fun h => absurd (by decide) h)
        refine w_allAnd <| w_tCompare1 <| w_loc rfl <| w_loc rfl ?_
        refine w_notinI (by kcf_m) hI lo ?_
        rw [hr]
        refine w_truthyB <| ite_nT <| ite_F <| w_allOr <| w_tBoolOp <| w_allAnd <| w_tCompare1 <| w_loc rfl <| w_glob rfl <| w_ge <| w_truthyB ?_
        refine ite_D (fun h => absurd h (by decide)) (fun _ => ?_)
        refine ite_F <| w_allOrNil <| ite_F <| w_execs_nil <| seq_next <| w_execs_cons <| w_If <| w_tBoolOp <| w_allAnd <| w_tCompare1 <| w_loc rfl <| w_glob rfl <| w_lt <| w_truthyB ?_
        refine ite_D (fun h => ?_) (fun h => ?_)
        · refine w_allAnd <| w_tCompare1 <| w_BinOp <| w_BinOp <| w_loc rfl <| w_loc rfl <| w_add fun _ => w_int fun _ => w_add fun _ => w_loc rfl <| w_ge <| w_truthyB ?_
          refine ite_D (fun h2 => absurd h2 (by kdl_here)) (fun _ => ?_)
          refine ite_F <| w_execs_nil <| seq_next <| w_execs_nil ?_
          exact fin _ ⟨_, _, _, _, _, rfl⟩
        · refine ite_F <| w_execs_nil <| seq_next <| w_execs_nil ?_
          exact fin _ ⟨_, _, _, _, _, rfl⟩
      · refine ite_D (fun h => absurd h (by decide)) (fun _ => ?_)
        refine ite_F <| w_allOr <| w_tBoolOp <| w_allAnd <| w_tCompare1 <| w_loc rfl <| w_glob rfl <| w_ge <| w_truthyB ?_
        refine ite_D (fun _ => ?_) (fun h => absurd (by decide) h)
        refine w_allAnd <| w_tCompare1 <| w_BinOp <| w_BinOp <| w_int fun _ => w_BinOp <| w_loc rfl <| w_glob rfl <| w_sub fun _ => w_mul (by first | exact .of_left (by decide) | exact .of_right (by decide)) fun _ => ?_
        refine w_loc rfl <| w_add fun _ => w_CallName <| w_glob rfl <| w_callB <| w_items_cons <| w_loc rfl <| w_items_nil <| w_lenT (by kcf_m) (by kdl_here) fun _ => ?_
        refine w_ge <| w_truthyB ?_
        refine ite_D (fun h2 => absurd h2 (by show ¬ ((2 : Int) ≤ 256 * (128 - 128) + r); lia)) (fun _ => ?_)
        refine ite_F <| w_allOrNil <| ite_F <| w_execs_nil <| seq_next <| w_execs_cons <| w_If <| w_tBoolOp <| w_allAnd <| w_tCompare1 <| w_loc rfl <| w_glob rfl <| w_lt <| w_truthyB ?_
        refine ite_D (fun h => ?_) (fun h => ?_)
        · refine w_allAnd <| w_tCompare1 <| w_BinOp <| w_BinOp <| w_loc rfl <| w_loc rfl <| w_add fun _ => w_int fun _ => w_add fun _ => w_loc rfl <| w_ge <| w_truthyB ?_
          refine ite_D (fun h2 => absurd h2 (by kdl_here)) (fun _ => ?_)
          refine ite_F <| w_execs_nil <| seq_next <| w_execs_nil ?_
          exact fin _ ⟨_, _, _, _, _, rfl⟩
        · refine ite_F <| w_execs_nil <| seq_next <| w_execs_nil ?_
          exact fin _ ⟨_, _, _, _, _, rfl⟩
  · rintro ls led hI9
    apply hI9.el; intro y1 y2 y3 y4 y5 y6 y7
    refine seq_next <| w_execs_nil ?_
    exact hN _ _ <| done_ (by kpf_close) ⟨rfl, rfl⟩


theorem left_start_spec {tp : Addr} {pvs : List Value} {kvs : List (Int × Value)} {c : List Ent} (m2 : (tp, tupO pvs) ∈ c) (hz : pvs.length ≤ 900) (hg : ∀ (i : Nat) (v : Value), pvs[i]? = some v → RowG c kvs pvs.length i v) :
    Fn 1 169 [.ref tp] [c] fun r fp => ∃ u, r = .int (-1) u ∧ fp = [c] := by
  refine fn_intro (binds := [((Str.ofString "program"), .ref tp)]) (gl' := [((Str.ofString "len"), .builtin "len"), ((Str.ofString "LEAD"), .int 255 343)])
    (ls0 := [((Str.ofString "program"), some (.ref tp)), ((Str.ofString "skip"), none), ((Str.ofString "following"), none), ((Str.ofString "op"), none), ((Str.ofString "rest"), none)]) (H := ?_)
  intro Γ K hr hc hK hN
  refine w_execs_cons <| w_If <| w_tCompare1 <| w_CallName <| w_glob rfl <| w_callB <| w_items_cons <| w_loc rfl <| w_items_nil <| w_lenT (by kcf_m) (by kdl_here) fun _ => ?_
  refine w_int fun _ => w_eq <| w_truthyB ?_
  refine ite_D (fun h => ?_) (fun h => ?_)
  · refine w_execs_cons <| w_Return <| w_UnaryOp <| w_int fun _ => w_neg fun _ => seq_ret <| seq_ret ?_
    exact hK _ _ _ <| done_ (by kpf_close) ⟨_, rfl, rfl⟩
  · obtain ⟨vs, v, rfl⟩ : ∃ vs v, pvs = vs ++ [v] := ⟨_, _, (List.dropLast_concat_getLast (fun e => h (by rw [e]; rfl))).symm⟩
    refine letG ?_; intro G9
    obtain ⟨a, s, f, o, r, t0, t1, t2, t3, rfl, ma, hs, -⟩ := hg vs.length v (by simp)
    unfold G9; clear G9
    rw [List.length_append, List.length_singleton] at hz hs
    refine w_execs_nil <| seq_next <| w_execs_cons <| w_AssignUn (w_Subscript <| w_loc rfl <| w_UnaryOp <| w_int fun _ => w_neg fun _ => ?_) rfl
    refine w_subTLast (by kcf_m) (by kdl_here) ?_ (by with_unfolding_all rfl)
    refine w_assignTup (by kcf_m) (by exact rfl) (by exact rfl) ?_
    refine w_inOrder_cons rfl <| w_assignName <| w_store (by assumption) (by kpt_turns) ?_
    refine w_inOrder_cons rfl <| w_assignName <| w_store (by assumption) (by kpt_turns) ?_
    refine w_inOrder_cons rfl <| w_assignName <| w_store (by assumption) (by kpt_turns) ?_
    refine w_inOrder_cons rfl <| w_assignName <| w_store (by assumption) (by kpt_turns) ?_
    refine w_inOrder_nil <| seq_next <| w_execs_cons <| w_Return <| w_IfExp <| w_tCompare1 <| w_loc rfl <| w_glob rfl <| w_eq <| w_truthyB ?_
    refine ite_D (fun h => absurd h (by kdl_here)) (fun _ => ?_)
    refine w_UnaryOp <| w_int fun _ => w_neg fun _ => seq_ret ?_
    exact hK _ _ _ <| done_ (by kpf_close) ⟨_, rfl, rfl⟩
theorem CharAt.mono {ts ts' : List Ent} {pvs : List Value} {v : Value} {R : List Row3} (h : CharAt ts pvs v R) (k : ∀ x ∈ ts, x ∈ ts') : CharAt ts' pvs v R := by
  obtain ⟨a, v0, v1, v2, v3, s, p, t4, t5, e, m, h⟩ := h
  refine ⟨a, v0, v1, v2, v3, s, p, t4, t5, e, k _ m, h.imp id fun ⟨h1, h2, pn, h3, h4⟩ => ⟨h1, h2, pn, h3, fun kk r hr => ?_⟩⟩
  obtain ⟨ra, t1, t2, t3, t4, e, m⟩ := h4 kk r hr
  exact ⟨ra, t1, t2, t3, t4, e, k _ m⟩
set_option maxHeartbeats 16000000 in
theorem font_init_spec {x dx pt dc0 tp kt : Addr} {ces : Array DictEntry} {cep : Nat} {kvs : List (Int × Value)} {pvs : List Value} {k1 k2 t1 t2 t3 : Tok} {ts0 c : List Ent} {fm : Int → Option (List Row3)}
    (ec : c = (tp, tupO pvs) :: (kt, tupO [.int 7001 k1, .int (-3000) k2]) :: (pt, tupO []) :: (dc0, dictO ces cep) :: ts0) (hI : IDict ces kvs) (lo : (dc0 == sysModules) = false) (hz : pvs.length ≤ 900) (hzk : kvs.length ≤ 900)
    (hc1 : ∀ p ∈ kvs, 0 ≤ p.1 ∧ p.1 ≤ 255 ∧ CharG ts0 pvs.length p.2) (hg : ∀ (i : Nat) (v : Value), pvs[i]? = some v → RowG ts0 kvs pvs.length i v) (hm : ∀ code, match fm code with | none => valueAt kvs code = none | some R => ∃ v, valueAt kvs code = some v ∧ CharAt ts0 pvs v R) :
    Fn 6 186 [.ref x, .int 1 t1, .str (Str.ofString "fa") t2, .int 655360 t3, .ref pt, .ref dc0, .ref tp, .ref kt] [[(x, instObj 259 dx)], [(dx, dictOf [] 0)], c] fun r fp => r = .none ∧ ∃ dc ts c', FontO x dx dc tp kt pvs ts fm c' ∧ fp = [c'] := by
  have m2 : (tp, tupO pvs) ∈ c := by rw [ec]; exact .head _
  have m3 : (kt, tupO [.int 7001 k1, .int (-3000) k2]) ∈ c := by rw [ec]; exact .tail _ (.head _)
  have m4 : (pt, tupO []) ∈ c := by rw [ec]; exact .tail _ (.tail _ (.head _))
  have m1 : (dc0, dictO ces cep) ∈ c := by rw [ec]; exact .tail _ (.tail _ (.tail _ (.head _)))
  have mt : ∀ y ∈ ts0, y ∈ c := fun y h => by rw [ec]; exact .tail _ (.tail _ (.tail _ (.tail _ h)))
  have hc2 : ∀ p ∈ kvs, 0 ≤ p.1 ∧ p.1 ≤ 255 ∧ CharG c pvs.length p.2 := fun p hp => by
    refine letG ?_; intro G9
    obtain ⟨a1, a2, a, w, s, q, u0, u1, u2, u3, u4, u5, e, m, r⟩ := hc1 p hp
    unfold G9; clear G9
    exact ⟨a1, a2, a, w, s, q, u0, u1, u2, u3, u4, u5, e, mt _ m, by assumption, by assumption, by assumption, by assumption, by assumption, by assumption⟩
  have hg2 : ∀ (i : Nat) (v : Value), pvs[i]? = some v → RowG c kvs pvs.length i v := fun i v h => by
    refine letG ?_; intro G9
    obtain ⟨a, s, f, o, r, u0, u1, u2, u3, e, m, x1, x2, x3, x4, x5, x6, x7⟩ := hg i v h
    unfold G9; clear G9
    exact ⟨a, s, f, o, r, u0, u1, u2, u3, e, mt _ m, x1, x2, x3, x4, x5, x6, x7⟩
  refine fn_intro (binds := [((Str.ofString "self"), .ref x), ((Str.ofString "number"), .int 1 t1), ((Str.ofString "name"), .str (Str.ofString "fa") t2), ((Str.ofString "size"), .int 655360 t3), ((Str.ofString "params"), .ref pt), ((Str.ofString "chars"), .ref dc0), ((Str.ofString "program"), .ref tp), ((Str.ofString "kerns"), .ref kt), ((Str.ofString "boundary"), .int 256 321)])
    (gl' := [((Str.ofString "is_whole"), .ref 97), ((Str.ofString "MOST_FONTS"), .int 255 323), ((Str.ofString "isinstance"), .builtin "isinstance"), ((Str.ofString "str"), .type "str"), ((Str.ofString "MOST_SIZE"), .int 134217727 331), ((Str.ofString "EDGE"), .int 256 321), ((Str.ofString "len"), .builtin "len"), ((Str.ofString "MOST_PARAMS"), .int 64 325), ((Str.ofString "check_sizes"), .ref 134), ((Str.ofString "check_chars"), .ref 148), ((Str.ofString "check_larger"), .ref 155), ((Str.ofString "check_program"), .ref 162), ((Str.ofString "list"), .type "list"), ((Str.ofString "dict"), .type "dict"), ((Str.ofString "tuple"), .type "tuple"), ((Str.ofString "left_start"), .ref 169)])
    (ls0 := [((Str.ofString "self"), some (.ref x)), ((Str.ofString "number"), some (.int 1 t1)), ((Str.ofString "name"), some (.str (Str.ofString "fa") t2)), ((Str.ofString "size"), some (.int 655360 t3)), ((Str.ofString "params"), some (.ref pt)), ((Str.ofString "chars"), some (.ref dc0)), ((Str.ofString "program"), some (.ref tp)), ((Str.ofString "kerns"), some (.ref kt)), ((Str.ofString "boundary"), some (.int 256 321))]) (H := ?_)
  intro Γ K hr hc hK hN
  have hf0 : FAre [] [] := .nil
  refine w_execs_cons <| w_If <| w_tBoolOp <| w_allOr <| w_tNot <| w_tValue <| w_CallName <| w_glob rfl <| w_callK (by kd_p) ?_
  refine w_items_cons <| w_loc rfl <| w_items_cons <| w_int fun _ => w_items_cons <| w_glob rfl <| w_items_nil ?_
  refine w_fn0_0 is_whole_spec (by kdl_here) (by kpf_close) ?_
  rw [show decide ((1 : Int) ≤ 1 ∧ (1 : Int) ≤ 255) = true from by decide]
  refine w_truthyB <| ite_nT <| w_allOr <| w_tNot <| w_tValue <| w_CallName <| w_glob rfl <| w_callB <| w_items_cons <| w_loc rfl <| w_items_cons <| w_glob rfl <| w_items_nil <| w_isStrStr <| w_truthyB <| ite_nT <| w_allOr <| w_tCompare1 <| w_loc rfl <| w_str fun _ => ?_
  refine w_eqD (.str _ _) (.str _ _) (by decide +kernel) (by decide +kernel) (by decide) ?_
  rw [show PyData.eqv (.str (Str.ofString "fa")) (.str (Str.ofString "")) = false from by decide +kernel]
  refine w_truthyB <| ite_F <| w_allOr <| w_tNot <| w_tValue <| w_CallName <| w_glob rfl <| w_callK (by kd_p) ?_
  refine w_items_cons <| w_loc rfl <| w_items_cons <| w_int fun _ => w_items_cons <| w_glob rfl <| w_items_nil ?_
  refine w_fn0_0 is_whole_spec (by kdl_here) (by kpf_close) ?_
  rw [show decide ((1 : Int) ≤ 655360 ∧ (655360 : Int) ≤ 134217727) = true from by decide]
  refine w_truthyB <| ite_nT <| w_allOrNil <| ite_F <| w_execs_nil <| seq_next <| w_execs_cons <| w_If <| w_tBoolOp <| w_allOr <| w_tNot <| w_tValue <| w_CallName <| w_glob rfl <| w_callK (by kd_p) ?_
  refine w_items_cons <| w_loc rfl <| w_items_cons <| w_int fun _ => w_items_cons <| w_glob rfl <| w_items_nil ?_
  refine w_fn0_0 is_whole_spec (by kdl_here) (by kpf_close) ?_
  rw [show decide ((0 : Int) ≤ 256 ∧ (256 : Int) ≤ 256) = true from by decide]
  refine w_truthyB <| ite_nT <| w_allOr <| w_tCompare1 <| w_CallName <| w_glob rfl <| w_callB <| w_items_cons <| w_loc rfl <| w_items_nil <| w_lenT (by kcf_m) (by kdl_here) fun _ => ?_
  refine w_glob rfl <| w_gt <| w_truthyB ?_
  refine ite_D (fun h => absurd h (by decide)) (fun _ => ?_)
  refine w_allOrNil <| ite_F <| w_execs_nil <| seq_next <| w_execs_cons <| w_Expr <| w_CallName <| w_glob rfl <| w_callK (by kd_p) ?_
  refine w_items_cons <| w_loc rfl <| w_items_nil ?_
  refine w_fn0_0 (check_sizes_spec m4 .nil (fun _ h => nomatch h)) (by kdl_here) (by kpf_close) ?_
  refine none_and <| seq_next <| w_execs_cons <| w_Expr <| w_CallName <| w_glob rfl <| w_callK (by kd_p) ?_
  refine w_items_cons <| w_loc rfl <| w_items_nil ?_
  refine w_fn0_0 (check_sizes_spec m3 (.cons _ _ (.cons _ _ .nil)) (by intro n hn; simp at hn; lia)) (by kdl_here) (by kpf_close) ?_
  refine none_and <| seq_next <| w_execs_cons <| w_Expr <| w_CallName <| w_glob rfl <| w_callK (by kd_p) ?_
  refine w_items_cons <| w_loc rfl <| w_items_cons <| w_CallName <| w_glob rfl <| w_callB <| w_items_cons <| w_loc rfl <| w_items_nil <| w_lenT (by kcf_m) (by kdl_here) fun _ => ?_
  refine w_items_nil ?_
  refine w_fn0_0 (check_chars_spec m1 hI lo hc2) (by kdl_here) (by kpf_close) ?_
  refine none_and <| seq_next <| w_execs_cons <| w_Expr <| w_CallName <| w_glob rfl <| w_callK (by kd_p) ?_
  refine w_items_cons <| w_loc rfl <| w_items_nil ?_
  refine w_fn0_0 (check_larger_spec m1 hI lo hc2) (by kdl_here) (by kpf_close) ?_
  refine none_and <| seq_next <| w_execs_cons <| w_Expr <| w_CallName <| w_glob rfl <| w_callK (by kd_p) ?_
  refine w_items_cons <| w_loc rfl <| w_items_cons <| w_loc rfl <| w_items_cons <| w_loc rfl <| w_items_cons <| w_loc rfl <| w_items_nil ?_
  refine w_fn0_0 (check_program_spec m1 m2 m3 hI lo hz hg2) (by kdl_here) (by kpf_close) ?_
  refine none_and <| seq_next <| w_execs_cons <| w_AssignAttr <| w_loc rfl <| w_loc rfl <| w_setOwn (by kcf_m) (by kcf_m) (by assumption) (by kdl_here) (by kd_in) fun _ _ _ => ⟨_, by kcj_m, ?_⟩
  refine seq_next <| w_execs_cons <| w_AssignAttr <| w_loc rfl <| w_loc rfl <| w_setOwn (by kcf_m) (by kcf_m) (by assumption) (by kdl_here) (by kd_in) fun _ _ _ => ⟨_, by kcj_m, ?_⟩
  refine seq_next <| w_execs_cons <| w_AssignAttr <| w_loc rfl <| w_loc rfl <| w_setOwn (by kcf_m) (by kcf_m) (by assumption) (by kdl_here) (by kd_in) fun _ _ _ => ⟨_, by kcj_m, ?_⟩
  refine seq_next <| w_execs_cons <| w_AssignAttr <| w_loc rfl <| w_loc rfl <| w_setOwn (by kcf_m) (by kcf_m) (by assumption) (by kdl_here) (by kd_in) fun _ _ _ => ⟨_, by kcj_m, ?_⟩
  refine seq_next <| w_execs_cons <| w_AssignAttr <| w_int fun _ => w_loc rfl <| w_setOwn (by kcf_m) (by kcf_m) (by assumption) (by kdl_here) (by kd_in) fun _ _ _ => ⟨_, by kcj_m, ?_⟩
  refine seq_next <| w_execs_cons <| w_AssignAttr <| w_CallName <| w_glob rfl <| w_callT <| w_items_cons <| w_loc rfl <| w_items_nil <| w_listT (by kcf_m) (by kdl_here) fun _ _ => ?_
  refine w_loc rfl <| w_setOwn (by kcf_m) (by kcf_m) (by assumption) (by kdl_here) (by kd_in) fun _ _ _ => ⟨_, by kcj_m, ?_⟩
  refine seq_next <| w_execs_cons <| w_AssignAttr <| w_CallName <| w_glob rfl <| w_callT <| w_items_cons <| w_loc rfl <| w_items_nil ?_
  refine w_dictD (by kcf_m) hI lo (by kdl_here) (fun dc es' ep' lo' hI' => ?_)
  refine w_loc rfl <| w_setOwn (by kcf_m) (by kcf_m) (by assumption) (by kdl_here) (by kd_in) fun _ _ _ => ⟨_, by kcj_m, ?_⟩
  refine seq_next <| w_execs_cons <| w_AssignAttr <| w_CallName <| w_glob rfl <| w_callT <| w_items_cons <| w_loc rfl <| w_items_nil <| w_tupleT (by kcf_m) ?_
  refine w_loc rfl <| w_setOwn (by kcf_m) (by kcf_m) (by assumption) (by kdl_here) (by kd_in) fun _ _ _ => ⟨_, by kcj_m, ?_⟩
  refine seq_next <| w_execs_cons <| w_AssignAttr <| w_CallName <| w_glob rfl <| w_callT <| w_items_cons <| w_loc rfl <| w_items_nil <| w_tupleT (by kcf_m) ?_
  refine w_loc rfl <| w_setOwn (by kcf_m) (by kcf_m) (by assumption) (by kdl_here) (by kd_in) fun _ _ _ => ⟨_, by kcj_m, ?_⟩
  refine seq_next <| w_execs_cons <| w_AssignAttr <| w_loc rfl <| w_loc rfl <| w_setOwn (by kcf_m) (by kcf_m) (by assumption) (by kdl_here) (by kd_in) fun _ _ _ => ⟨_, by kcj_m, ?_⟩
  refine seq_next <| w_execs_cons <| w_AssignAttr <| w_CallName <| w_glob rfl <| w_callK (by kd_p) ?_
  refine w_items_cons <| w_loc rfl <| w_items_nil ?_
  refine w_fn1_0 (left_start_spec m2 hz hg2) (by kdl_here) (by kpf_close) ?_
  intro u
  refine w_loc rfl <| w_setOwn (by kcf_m) (by kcf_m) (by assumption) (by kdl_here) (by kd_in) fun _ _ _ => ⟨_, by kcj_m, ?_⟩
  refine seq_next <| w_execs_cons <| w_AssignAttr <| w_int fun _ => w_loc rfl <| w_setOwn (by kcf_m) (by kcf_m) (by assumption) (by kdl_here) (by kd_in) fun _ _ _ => ⟨_, by kcj_m, ?_⟩
  refine seq_next <| w_execs_cons <| w_AssignAttr <| w_UnaryOp <| w_int fun _ => w_neg fun _ => w_loc rfl <| w_setOwn (by kcf_m) (by kcf_m) (by assumption) (by kdl_here) (by kd_in) fun _ _ _ => ⟨_, by kcj_m, ?_⟩
  refine seq_next <| w_execs_nil ?_
  rename_i es9 n9 hf9
  refine hN _ _ <| drop_ (l := [[(x, instObj 259 dx)], [(dx, dictOf es9 n9)], [(dc, dictO es' ep')], c]) (l2 := [(x, instObj 259 dx) :: (dx, dictOf es9 n9) :: (dc, dictO es' ep') :: c]) (by kpf_close) (by simp)
    ⟨rfl, dc, (pt, tupO []) :: (dc0, dictO ces cep) :: ts0, _, ⟨es9, n9, _, es', ep', kvs, k1, k2, by rw [ec], lo', hf9, rfl, rfl, rfl, ⟨_, rfl⟩, ⟨_, rfl⟩, rfl, rfl, hI', by lia, fun code => ?_⟩, rfl⟩
  have h := hm code
  cases e : fm code with
  | none => rw [e] at h; exact h
  | some R => rw [e] at h; obtain ⟨v, a, b⟩ := h; exact ⟨v, a, b.mono fun y hy => .tail _ (.tail _ hy)⟩


def leftCode (W : List (List Int)) (w : List Int) : Int := if w.length = 2 then w.headD 0 else 20 + (W.idxOf (w.take 2) : Int)
/-- the rows of the ligatures, word by word -/
def ligN (W : List (List Int)) (c : Int) : Nat → List Row3
  | 0 => []
  | i + 1 => match W[i]? with
    | some w => if leftCode W w = c then ligN W c i ++ [(w.getLastD 0, 0, 20 + (i : Int))] else ligN W c i
    | none => ligN W c i
def kerN (Kn : List (List Int × Int)) (c : Int) : Nat → List Row3
  | 0 => []
  | i + 1 => match Kn[i]? with
    | some p => if p.1.headD 0 = c then kerN Kn c i ++ [(p.1.getD 1 0, 128, p.2)] else kerN Kn c i
    | none => kerN Kn c i
theorem idxOf_get {W : List (List Int)} (hn : W.Nodup) {j : Nat} {u : List Int} (h : W[j]? = some u) : W.idxOf u = j := by
  induction W generalizing j with
  | nil => simp at h
  | cons w r ih =>
    rw [List.nodup_cons] at hn
    rw [List.idxOf_cons]
    cases j with
    | zero => cases h; simp
    | succ j =>
      have h : r[j]? = some u := by simpa using h
      have : w ≠ u := fun e => hn.1 (e ▸ List.mem_of_getElem? h)
      have e : (w == u) = false := by simpa using this
      rw [e, ih hn.2 h]; rfl
/-- rows of three, as values -/
inductive R3s (ts : List Ent) : List Value → List Row3 → Prop
  | nil : R3s ts [] []
  | snoc {vs : List Value} {R : List Row3} (a : Addr) (r : Row3) (t1 t2 t3 : Tok) : R3s ts vs R → (a, tupO [.int r.1 t1, .int r.2.1 t2, .int r.2.2 t3]) ∈ ts → R3s ts (vs ++ [.ref a]) (R ++ [r])
theorem R3s.mono {ts ts' : List Ent} {vs : List Value} {R : List Row3} (h : R3s ts vs R) (k : ∀ x ∈ ts, x ∈ ts') : R3s ts' vs R := by
  induction h with
  | nil => exact .nil
  | snoc a r t1 t2 t3 _ m ih => exact .snoc a r t1 t2 t3 ih (k _ m)
theorem R3s.length {ts : List Ent} {vs : List Value} {R : List Row3} (h : R3s ts vs R) : vs.length = R.length := by
  induction h with
  | nil => rfl
  | snoc _ _ _ _ _ _ _ ih => simp [ih]
theorem R3s.cons {ts : List Ent} {vs : List Value} {R : List Row3} (a : Addr) (r : Row3) (t1 t2 t3 : Tok) (h : R3s ts vs R) (m : (a, tupO [.int r.1 t1, .int r.2.1 t2, .int r.2.2 t3]) ∈ ts) : R3s ts (.ref a :: vs) (r :: R) := by
  induction h with
  | nil => exact .snoc (vs := []) (R := []) a r t1 t2 t3 .nil m
  | snoc a' r' u1 u2 u3 _ m' ih => exact .snoc (vs := _ :: _) (R := _ :: _) a' r' u1 u2 u3 ih m'
theorem R3s.rev {ts : List Ent} {vs : List Value} {R : List Row3} (h : R3s ts vs R) : R3s ts vs.reverse R.reverse := by
  induction h with
  | nil => exact .nil
  | snoc a r t1 t2 t3 _ m ih => rw [List.reverse_append, List.reverse_append]; exact ih.cons a r t1 t2 t3 m
theorem R3s.get {ts : List Ent} {vs : List Value} {R : List Row3} (h : R3s ts vs R) {i : Nat} {v : Value} (e : vs[i]? = some v) : ∃ a r t1 t2 t3, v = .ref a ∧ R[i]? = some r ∧ (a, tupO [.int r.1 t1, .int r.2.1 t2, .int r.2.2 t3]) ∈ ts := by
  induction h with
  | nil => simp at e
  | @snoc vs R a r t1 t2 t3 h m ih =>
    have hl := h.length
    by_cases hi : i < vs.length
    · rw [List.getElem?_append_left hi] at e
      obtain ⟨a', r', u1, u2, u3, x, y, z⟩ := ih e
      exact ⟨a', r', u1, u2, u3, x, by rw [List.getElem?_append_left (hl ▸ hi)]; exact y, z⟩
    · have hlt := (List.getElem?_eq_some_iff.mp e).1
      rw [List.length_append, List.length_singleton] at hlt
      have : i = vs.length := by lia
      subst this
      rw [List.getElem?_append_right (Nat.le_refl _)] at e
      simp at e
      subst e
      exact ⟨a, r, t1, t2, t3, rfl, by rw [hl, List.getElem?_append_right (Nat.le_refl _)]; simp, m⟩
/-- the parts' dict -/
def PartsR (kvs : List (Int × Value)) (ts : List Ent) (Pm : Int → List Row3) : Prop := ∀ c, match valueAt kvs c with
  | none => Pm c = []
  | some v => ∃ l rvs n, v = .ref l ∧ (l, listOf (List.toArray rvs) n) ∈ ts ∧ R3s ts rvs (Pm c)
theorem valueAt_cons (p : Int × Value) (r : List (Int × Value)) (c : Int) : valueAt (p :: r) c = if p.1 = c then some p.2 else valueAt r c := by
  unfold valueAt
  rw [List.find?_cons]
  by_cases e : p.1 = c
  · simp [e]
  · simp [e]
theorem valueAt_map (kvs : List (Int × Value)) (k c : Int) (v : Value) : valueAt (kvs.map fun kv => if kv.1 = k then (kv.1, v) else kv) c = if c = k then (valueAt kvs c).map (fun _ => v) else valueAt kvs c := by
  induction kvs with
  | nil => by_cases e : c = k <;> simp [valueAt]
  | cons p r ih =>
    rw [List.map_cons, valueAt_cons, valueAt_cons, ih]
    by_cases e1 : p.1 = k
    · rw [if_pos e1]
      by_cases e2 : p.1 = c
      · have : c = k := e2 ▸ e1
        simp [e2, this]
      · have : ¬ c = k := fun q => e2 (e1.trans q.symm)
        simp [e2, this]
    · rw [if_neg e1]
      by_cases e2 : p.1 = c
      · have : ¬ c = k := fun q => e1 (e2.trans q)
        simp [e2, this]
      · simp [e2]
theorem valueAt_app (l r : List (Int × Value)) (k : Int) : valueAt (l ++ r) k = (valueAt l k).or (valueAt r k) := by
  unfold valueAt; rw [List.find?_append]; cases List.find? (fun kv => decide (kv.1 = k)) l <;> simp
theorem valueAt_stored (kvs : List (Int × Value)) (k c : Int) (v : Value) : valueAt (stored kvs k v) c = if c = k then some v else valueAt kvs c := by
  unfold stored
  have ha := valueAt_isSome_eq_any kvs k
  by_cases h : (kvs.any fun kv => decide (kv.1 = k)) = true
  · rw [if_pos h, valueAt_map]
    rw [h] at ha
    by_cases e : c = k
    · subst e
      obtain ⟨u, hu⟩ := Option.isSome_iff_exists.mp ha
      simp [hu]
    · simp [e]
  · rw [if_neg h, valueAt_app]
    rw [Bool.not_eq_true] at h
    rw [h] at ha
    by_cases e : c = k
    · subst e
      have : valueAt kvs c = none := by cases q : valueAt kvs c with | none => rfl | some _ => rw [q] at ha; cases ha
      rw [this, if_pos rfl]; simp [valueAt]
    · have : ¬ k = c := fun q => e q.symm
      rw [if_neg e]
      have : valueAt [(k, v)] c = none := by rw [valueAt_cons, if_neg this]; rfl
      rw [this]; simp
theorem PartsR.get {kvs : List (Int × Value)} {ts : List Ent} {Pm : Int → List Row3} (h : PartsR kvs ts Pm) (c : Int) (nl : Addr) (m0 : Nat) : ∃ l rvs n, (valueAt kvs c).getD (.ref nl) = .ref l ∧ (l, listOf (List.toArray rvs) n) ∈ (nl, listOf (List.toArray []) m0) :: ts ∧ R3s ts rvs (Pm c) := by
  have := h c
  cases e : valueAt kvs c with
  | none => rw [e] at this; exact ⟨nl, [], m0, rfl, .head _, by rw [this]; exact .nil⟩
  | some v =>
    rw [e] at this
    obtain ⟨l, rvs, n, rfl, m, r⟩ := this
    exact ⟨l, rvs, n, rfl, .tail _ m, r⟩
theorem PartsR.put {kvs : List (Int × Value)} {ts ts' : List Ent} {Pm Pm' : Int → List Row3} {c : Int} {l : Addr} {rvs : List Value} {n : Nat} (h : PartsR kvs ts Pm) (k : ∀ x ∈ ts, x ∈ ts') (m : (l, listOf (List.toArray rvs) n) ∈ ts') (hr : R3s ts' rvs (Pm' c)) (hne : ∀ d, d ≠ c → Pm' d = Pm d) : PartsR (stored kvs c (.ref l)) ts' Pm' := by
  intro d
  rw [valueAt_stored]
  by_cases e : d = c
  · subst e; rw [if_pos rfl]; exact ⟨l, rvs, n, rfl, m, hr⟩
  · rw [if_neg e]
    have := h d
    rw [hne d e]
    cases q : valueAt kvs d with
    | none => rw [q] at this; exact this
    | some v =>
      rw [q] at this
      obtain ⟨l', rvs', n', e', m', r'⟩ := this
      exact ⟨l', rvs', n', e', k _ m', r'.mono k⟩
theorem ints_last : ∀ {vs : List Value} {ns : List Int}, IntsAre vs ns → ns ≠ [] → ∃ vs' t, vs = vs' ++ [.int (ns.getLastD 0) t] ∧ vs'.length + 1 = ns.length
  | _, _, .nil, hne => absurd rfl hne
  | _, _, .cons n t .nil, _ => ⟨[], t, rfl, rfl⟩
  | _, _, .cons n t (.cons m u h'), _ => by
    obtain ⟨vs', t', e, l⟩ := ints_last (.cons m u h') (by simp)
    exact ⟨_ :: vs', t', by rw [e]; rfl, by simp at l ⊢; lia⟩
theorem ligN_len (W : List (List Int)) (c : Int) : ∀ i, (ligN W c i).length ≤ i
  | 0 => Nat.le_refl 0
  | i + 1 => by
    have := ligN_len W c i
    rw [ligN]
    split
    · split
      · rw [List.length_append, List.length_singleton]; lia
      · lia
    · lia
theorem kerN_len (Kn : List (List Int × Int)) (c : Int) : ∀ i, (kerN Kn c i).length ≤ i
  | 0 => Nat.le_refl 0
  | i + 1 => by
    have := kerN_len Kn c i
    rw [kerN]
    split
    · split
      · rw [List.length_append, List.length_singleton]; lia
      · lia
    · lia

def rowsOf (W : List (List Int)) (Kn : List (List Int × Int)) (tu : Bool) (c : Int) : List Row3 := if tu then (ligN W c W.length ++ kerN Kn c Kn.length).reverse else ligN W c W.length ++ kerN Kn c Kn.length
def codesOf (L : Int) (W : List (List Int)) : List Int := upInts 1 L.toNat ++ upInts 20 W.length
def fmOf (L : Int) (W : List (List Int)) (Kn : List (List Int × Int)) (tu : Bool) (c : Int) : Option (List Row3) := if c ∈ codesOf L W then some (rowsOf W Kn tu c) else none
theorem upInts_mem : ∀ (n : Nat) (a x : Int), x ∈ upInts a n ↔ a ≤ x ∧ x < a + n
  | 0, a, x => by rw [upInts]; simp
  | n + 1, a, x => by rw [upInts, List.mem_cons, upInts_mem n (a + 1) x]; push_cast; lia
theorem codes_mem {L : Int} {W : List (List Int)} (hL : 0 ≤ L) {x : Int} : x ∈ codesOf L W ↔ (1 ≤ x ∧ x ≤ L) ∨ (20 ≤ x ∧ x < 20 + W.length) := by
  unfold codesOf
  rw [List.mem_append, upInts_mem, upInts_mem]; lia
def goodR (L : Int) (W : List (List Int)) (r : Row3) : Prop := 1 ≤ r.1 ∧ r.1 ≤ L ∧ ((r.2.1 = 0 ∧ ∃ i : Nat, i < W.length ∧ r.2.2 = 20 + (i : Int)) ∨ (r.2.1 = 128 ∧ (r.2.2 = 0 ∨ r.2.2 = 1)))
theorem getLastD_mem : ∀ {w : List Int}, w ≠ [] → w.getLastD 0 ∈ w
  | [], h => absurd rfl h
  | a :: r, _ => by
    rw [List.getLastD_eq_getLast?, List.getLast?_eq_some_getLast (by simp)]
    exact List.getLast_mem _
theorem ligN_good {L : Int} {W : List (List Int)} (hG : GoodW L W) {c : Int} {r : Row3} : ∀ {i : Nat}, r ∈ ligN W c i → goodR L W r
  | 0, h => by cases h
  | i + 1, h => by
    rw [ligN] at h
    split at h
    · rename_i w e
      split at h
      · rcases List.mem_append.mp h with h | h
        · exact ligN_good hG h
        · rw [List.mem_singleton.mp h]
          obtain ⟨h1, h2⟩ := hG.1 w (List.mem_of_getElem? e)
          have h3 := h2 _ (getLastD_mem (w := w) (fun q => by rw [q] at h1; rcases h1 with h | h <;> cases h))
          exact ⟨h3.1, h3.2, .inl ⟨rfl, i, (List.getElem?_eq_some_iff.mp e).1, rfl⟩⟩
      · exact ligN_good hG h
    · exact ligN_good hG h
theorem kerN_good {L : Int} {W : List (List Int)} {Kn : List (List Int × Int)} (hG : GoodK L W Kn) {c : Int} {r : Row3} : ∀ {i : Nat}, r ∈ kerN Kn c i → goodR L W r
  | 0, h => by cases h
  | i + 1, h => by
    rw [kerN] at h
    split at h
    · rename_i p e
      split at h
      · rcases List.mem_append.mp h with h | h
        · exact kerN_good hG h
        · rw [List.mem_singleton.mp h]
          obtain ⟨⟨c', l, ws, e1, l1, l2, -⟩, hv⟩ := hG.1 p (List.mem_of_getElem? e)
          rw [e1]
          exact ⟨l1, l2, .inr ⟨rfl, hv⟩⟩
      · exact kerN_good hG h
    · exact kerN_good hG h
theorem rowsOf_good {L : Int} {W : List (List Int)} {Kn : List (List Int × Int)} {tu : Bool} (hG : GoodW L W) (hK : GoodK L W Kn) {c : Int} {r : Row3} (h : r ∈ rowsOf W Kn tu c) : goodR L W r := by
  have : r ∈ ligN W c W.length ++ kerN Kn c Kn.length := by
    unfold rowsOf at h
    split at h
    · exact List.mem_reverse.mp h
    · exact h
  rcases List.mem_append.mp this with h | h
  · exact ligN_good hG h
  · exact kerN_good hK h
theorem rowsOf_len {W : List (List Int)} {Kn : List (List Int × Int)} {tu : Bool} (c : Int) : (rowsOf W Kn tu c).length ≤ W.length + Kn.length := by
  have h1 := ligN_len W c W.length
  have h2 := kerN_len Kn c Kn.length
  unfold rowsOf
  split
  · rw [List.length_reverse, List.length_append]; lia
  · rw [List.length_append]; lia
inductive CharW (ts : List Ent) (rvs : List Value) (v : Value) (R : List Row3) : Prop
  | mk (a : Addr) (w q : Int) (t0 t1 t2 t3 t4 t5 : Tok) (e : v = .ref a) (m : (a, tupO [.int w t0, .int 0 t1, .int 0 t2, .int 0 t3, .int (if R = [] then 0 else 1) t4, .int q t5]) ∈ ts) (w0 : -1073741823 ≤ w) (w1 : w ≤ 1073741823) (hR : (R = [] ∧ q = 0) ∨ (R ≠ [] ∧ ∃ pn : Nat, q = pn ∧ RowsAt ts rvs pn R)) : CharW ts rvs v R
theorem RowAt.mono {ts ts' : List Ent} {pvs more : List Value} {j : Nat} {s : Int} {r : Row3} (h : RowAt ts pvs j s r) (k : ∀ x ∈ ts, x ∈ ts') : RowAt ts' (pvs ++ more) j s r := by
  obtain ⟨ra, t1, t2, t3, t4, e, m⟩ := h
  exact ⟨ra, t1, t2, t3, t4, by rw [List.getElem?_append_left (List.getElem?_eq_some_iff.mp e).1]; exact e, k _ m⟩
theorem CharW.mono {ts ts' : List Ent} {pvs more : List Value} {v : Value} {R : List Row3} (h : CharW ts pvs v R) (k : ∀ x ∈ ts, x ∈ ts') : CharW ts' (pvs ++ more) v R := by
  obtain ⟨a, w, q, t0, t1, t2, t3, t4, t5, e, m, w0, w1, hR⟩ := h
  exact ⟨a, w, q, t0, t1, t2, t3, t4, t5, e, k _ m, w0, w1, hR.imp id fun ⟨h1, pn, h2, h3⟩ => ⟨h1, pn, h2, fun kk r hr => (h3 kk r hr).mono k⟩⟩
def RowF (L : Int) (W : List (List Int)) (ts : List Ent) (rvs : List Value) (N : Nat) : Prop := ∀ (j : Nat) (v : Value), rvs[j]? = some v → ∃ a s r t0 t1 t2 t3, v = .ref a ∧ (a, tupO [.int s t0, .int r.1 t1, .int r.2.1 t2, .int r.2.2 t3]) ∈ ts ∧ goodR L W r ∧ ((s = 0 ∧ j + 1 < N) ∨ s = 128)
theorem RowF.mono {L : Int} {W : List (List Int)} {ts ts' : List Ent} {rvs : List Value} {N N' : Nat} (h : RowF L W ts rvs N) (k : ∀ x ∈ ts, x ∈ ts') (hN : N ≤ N') : RowF L W ts' rvs N' := fun j v e => by
  obtain ⟨a, s, r, t0, t1, t2, t3, e1, m, g, hs⟩ := h j v e
  exact ⟨a, s, r, t0, t1, t2, t3, e1, k _ m, g, hs.imp (fun q => ⟨q.1, by lia⟩) id⟩
theorem RowF.snoc {L : Int} {W : List (List Int)} {ts : List Ent} {rvs : List Value} {N : Nat} (h : RowF L W ts rvs N) {a : Addr} {s : Int} {r : Row3} {t0 t1 t2 t3 : Tok} (m : (a, tupO [.int s t0, .int r.1 t1, .int r.2.1 t2, .int r.2.2 t3]) ∈ ts) (g : goodR L W r) (hs : (s = 0 ∧ rvs.length + 1 < N) ∨ s = 128) : RowF L W ts (rvs ++ [.ref a]) N := fun j v e => by
  by_cases hj : j < rvs.length
  · rw [List.getElem?_append_left hj] at e; exact h j v e
  · have hlt := (List.getElem?_eq_some_iff.mp e).1
    rw [List.length_append, List.length_singleton] at hlt
    have : j = rvs.length := by lia
    subst this
    rw [List.getElem?_append_right (Nat.le_refl _)] at e
    simp at e
    subst e
    exact ⟨a, s, r, t0, t1, t2, t3, rfl, m, g, hs⟩
theorem PartsR.mono {kvs : List (Int × Value)} {ts ts' : List Ent} {Pm : Int → List Row3} (h : PartsR kvs ts Pm) (k : ∀ x ∈ ts, x ∈ ts') : PartsR kvs ts' Pm := fun c => by
  have := h c
  cases e : valueAt kvs c with
  | none => rw [e] at this; exact this
  | some v =>
    rw [e] at this
    obtain ⟨l, rvs, n, e1, m, r⟩ := this
    exact ⟨l, rvs, n, e1, k _ m, r.mono k⟩
theorem upInts_snoc : ∀ (n : Nat) (a : Int), upInts a (n + 1) = upInts a n ++ [a + (n : Int)]
  | 0, a => by rw [upInts, upInts, upInts]; simp
  | n + 1, a => by
    rw [upInts, upInts_snoc n (a + 1), upInts, List.cons_append]
    have e : a + 1 + (n : Int) = a + ((n + 1 : Nat) : Int) := by push_cast; lia
    rw [e]
section
variable {Γ : Fm} {gl : List (Str × Value)} {cl : List (Str × Addr)} {ls : Locs} {led : Led}
def rowD (r : Row3) : PyData := .tuple [.int r.1, .int r.2.1, .int r.2.2]
theorem r3_rds {ts : List Ent} {vs : List Value} {R : List Row3} (h : R3s ts vs R) (hts : ∀ x ∈ ts, x ∈ led.flatten) : Rds led vs (R.map rowD) := by
  induction h with
  | nil => exact .nil
  | snoc a r t1 t2 t3 _ m ih =>
    rw [List.map_append]
    exact ih.app (.cons (.tup (.of_mem (hts _ m)) (.cons (.int _ _) (.cons (.int _ _) (.cons (.int _ _) .nil)))) .nil)
theorem w_r3Ne {ts : List Ent} {l b : Addr} {vs : List Value} {n m : Nat} {R : List Row3} {Q : Value → Locs → Led → Prop} (al : At l (listOf (List.toArray vs) n) led) (ab : At b (listOf (List.toArray []) m) led) (hw : R3s ts vs R) (hts : ∀ x ∈ ts, x ∈ led.flatten)
    (h : Q (.bool (!decide (R = []))) ls led) : WP Γ gl cl ls led (compareOp .NotEq (.ref l) (.ref b)) Q := by
  have e1 : ∀ ys : List Row3, PyData.canLayAll0 (ys.map rowD) = true := fun ys => by
    induction ys with
    | nil => rfl
    | cons y r ih => exact ih
  have e2 : ∀ ys : List Row3, PyData.depthAll (ys.map rowD) ≤ 8 := fun ys => by
    induction ys with
    | nil => exact Nat.zero_le _
    | cons y r ih =>
      have : PyData.depthAll ((y :: r).map rowD) = max (rowD y).depth (PyData.depthAll (r.map rowD)) := rfl
      rw [this]
      exact Nat.max_le.mpr ⟨Nat.le_of_ble_eq_true rfl, ih⟩
  refine w_neD (.list al (r3_rds hw hts)) (.list (ds := []) ab .nil) (e1 _) rfl ?_ ?_
  · have := e2 R
    show PyData.depthAll (R.map rowD) + 1 ≤ 9
    lia
  · cases R with
    | nil => exact h
    | cons y r => exact h
end
theorem CharW.toAt {ts : List Ent} {rvs : List Value} {v : Value} {R : List Row3} (h : CharW ts rvs v R) : CharAt ts rvs v R := by
  obtain ⟨a, w, q, t0, t1, t2, t3, t4, t5, e, m, w0, w1, hR⟩ := h
  refine ⟨a, _, _, _, _, _, q, t4, t5, e, m, ?_⟩
  rcases hR with ⟨h1, h2⟩ | ⟨h1, pn, h2, h3⟩
  · exact .inl ⟨h1, if_pos h1⟩
  · exact .inr ⟨h1, if_neg h1, pn, h2, h3⟩
theorem CharW.toG {ts : List Ent} {rvs : List Value} {v : Value} {R : List Row3} (h : CharW ts rvs v R) (hz : rvs.length ≤ 255) : CharG ts rvs.length v := by
  obtain ⟨a, w, q, t0, t1, t2, t3, t4, t5, e, m, w0, w1, hR⟩ := h
  rcases hR with ⟨h1, h2⟩ | ⟨h1, pn, h2, h3⟩
  · refine ⟨a, w, _, q, t0, t1, t2, t3, t4, t5, e, m, w0, w1, .inl (if_pos h1), by lia, by lia, fun q => ?_⟩
    rw [if_pos h1] at q; cases q
  · obtain ⟨r, hr⟩ : ∃ r, R[0]? = some r := by cases R with | nil => exact absurd rfl h1 | cons a _ => exact ⟨a, rfl⟩
    obtain ⟨ra, -, -, -, -, e2, -⟩ := h3 0 r hr
    have hlt := (List.getElem?_eq_some_iff.mp e2).1
    exact ⟨a, w, _, q, t0, t1, t2, t3, t4, t5, e, m, w0, w1, .inr (if_neg h1), by lia, by lia, fun _ => by lia⟩
theorem RowF.toG {L : Int} {W : List (List Int)} {ts : List Ent} {rvs : List Value} {kvs : List (Int × Value)} (h : RowF L W ts rvs rvs.length) (hL : 0 ≤ L) (hL2 : L ≤ 4) (hWl : W.length ≤ 10) (hk : ∀ c ∈ codesOf L W, (valueAt kvs c).isSome) (i : Nat) (v : Value) (e : rvs[i]? = some v) : RowG ts kvs rvs.length i v := by
  obtain ⟨a, s, r, t0, t1, t2, t3, e1, m, g, hs⟩ := h i v e
  obtain ⟨g1, g2, g3⟩ := g
  have hf := hk r.1 ((codes_mem hL).mpr (.inl ⟨g1, g2⟩))
  rcases g3 with ⟨g3, j, hj, g4⟩ | ⟨g3, g4⟩
  · exact ⟨a, s, _, _, _, t0, t1, t2, t3, e1, m, hs, by lia, by lia, hf, by lia, by lia, .inl ⟨g3, hk _ ((codes_mem hL).mpr (.inr ⟨by lia, by lia⟩))⟩⟩
  · exact ⟨a, s, _, _, _, t0, t1, t2, t3, e1, m, hs, by lia, by lia, hf, by lia, by lia, .inr ⟨g3, by lia⟩⟩


abbrev fontLs (L : Int) (tL : Tok) (kd pd : Addr) (tu : Bool) (y1 y2 y3 y4 y5 y6 y7 y8 y9 : Option Value) : Locs := [((Str.ofString "letters"), some (.int L tL)), ((Str.ofString "kerns"), some (.ref kd)), ((Str.ofString "is_turned"), some (.bool tu)), ((Str.ofString "parts"), some (.ref pd)), ((Str.ofString "word"), y1), ((Str.ofString "left"), y2), ((Str.ofString "pair"), y3), ((Str.ofString "rows"), y4), ((Str.ofString "chars"), y5), ((Str.ofString "code"), y6), ((Str.ofString "mine"), y7), ((Str.ofString "k"), y8), ((Str.ofString "row"), y9)]
inductive F1Inv (L : Int) (tL : Tok) (kd pd k0 : Addr) (tu : Bool) (o1 : Obj) (cw ck : List Ent) (Pm : Nat → Int → List Row3) (B i : Nat) (ls : Locs) (led : Led) : Prop
  | mk (y1 y2 y3 : Option Value) (es : Array DictEntry) (ep : Nat) (kvs : List (Int × Value)) (ts : List Ent) (e1 : ls = fontLs L tL kd pd tu y1 y2 y3 none none none none none none) (e2 : led = [[(pd, dictO es ep)], ts, [(k0, o1)], cw, ck]) (hI : IDict es kvs) (hP : PartsR kvs ts (Pm i)) (hl : kvs.length ≤ B + i) : F1Inv L tL kd pd k0 tu o1 cw ck Pm B i ls led
theorem F1Inv.el {L : Int} {tL : Tok} {kd pd k0 : Addr} {tu : Bool} {o1 : Obj} {cw ck : List Ent} {Pm : Nat → Int → List Row3} {B i : Nat} {ls : Locs} {led : Led} {G : Locs → Led → Prop} (h9 : F1Inv L tL kd pd k0 tu o1 cw ck Pm B i ls led) (k9 : ∀ (y1 y2 y3 : Option Value) (es : Array DictEntry) (ep : Nat) (kvs : List (Int × Value)) (ts : List Ent) (hI : IDict es kvs) (hP : PartsR kvs ts (Pm i)) (hl : kvs.length ≤ B + i), G (fontLs L tL kd pd tu y1 y2 y3 none none none none none none) ([[(pd, dictO es ep)], ts, [(k0, o1)], cw, ck])) : G ls led := by
  obtain ⟨y1, y2, y3, es, ep, kvs, ts, rfl, rfl, hI, hP, hl⟩ := h9
  exact k9 y1 y2 y3 es ep kvs ts hI hP hl
inductive F3Inv (L : Int) (tL : Tok) (kd pd rd chd D3 k0 : Addr) (tu : Bool) (o1 : Obj) (cw ck : List Ent) (W : List (List Int)) (Kn : List (List Int × Int)) (lvs : List Value) (i : Nat) (ls : Locs) (led : Led) : Prop
  | mk (y1 y2 y3 y6 y7 y8 y9 : Option Value) (rvs : List Value) (rn : Nat) (ces : Array DictEntry) (cep : Nat) (kvs : List (Int × Value)) (pes : Array DictEntry) (pep : Nat) (pkvs : List (Int × Value)) (ts : List Ent)
    (e1 : ls = fontLs L tL kd pd tu y1 y2 y3 (some (.ref rd)) (some (.ref chd)) y6 y7 y8 y9) (e2 : led = [[(rd, listOf (List.toArray rvs) rn)], [(chd, dictO ces cep)], [(D3, listOf (List.toArray lvs) 0)], ts, [(pd, dictO pes pep)], [(k0, o1)], cw, ck])
    (hI : IDict ces kvs) (hPI : IDict pes pkvs) (hPm : PartsR pkvs ts (fun c => ligN W c W.length ++ kerN Kn c Kn.length)) (hC1 : ∀ c ∈ (codesOf L W).take i, ∃ v, valueAt kvs c = some v ∧ CharW ts rvs v (rowsOf W Kn tu c)) (hC2 : ∀ c, c ∉ (codesOf L W).take i → valueAt kvs c = none)
    (hR : RowF L W ts rvs rvs.length) (hl : rvs.length ≤ 14 * i) (hk : kvs.length ≤ i) : F3Inv L tL kd pd rd chd D3 k0 tu o1 cw ck W Kn lvs i ls led
theorem F3Inv.el {L : Int} {tL : Tok} {kd pd rd chd D3 k0 : Addr} {tu : Bool} {o1 : Obj} {cw ck : List Ent} {W : List (List Int)} {Kn : List (List Int × Int)} {lvs : List Value} {i : Nat} {ls : Locs} {led : Led} {G : Locs → Led → Prop} (h9 : F3Inv L tL kd pd rd chd D3 k0 tu o1 cw ck W Kn lvs i ls led) (k9 : ∀ (y1 y2 y3 y6 y7 y8 y9 : Option Value) (rvs : List Value) (rn : Nat) (ces : Array DictEntry) (cep : Nat) (kvs : List (Int × Value)) (pes : Array DictEntry) (pep : Nat) (pkvs : List (Int × Value)) (ts : List Ent) (hI : IDict ces kvs) (hPI : IDict pes pkvs) (hPm : PartsR pkvs ts (fun c => ligN W c W.length ++ kerN Kn c Kn.length)) (hC1 : ∀ c ∈ (codesOf L W).take i, ∃ v, valueAt kvs c = some v ∧ CharW ts rvs v (rowsOf W Kn tu c)) (hC2 : ∀ c, c ∉ (codesOf L W).take i → valueAt kvs c = none) (hR : RowF L W ts rvs rvs.length) (hl : rvs.length ≤ 14 * i) (hk : kvs.length ≤ i), G (fontLs L tL kd pd tu y1 y2 y3 (some (.ref rd)) (some (.ref chd)) y6 y7 y8 y9) ([[(rd, listOf (List.toArray rvs) rn)], [(chd, dictO ces cep)], [(D3, listOf (List.toArray lvs) 0)], ts, [(pd, dictO pes pep)], [(k0, o1)], cw, ck])) : G ls led := by
  obtain ⟨y1, y2, y3, y6, y7, y8, y9, rvs, rn, ces, cep, kvs, pes, pep, pkvs, ts, rfl, rfl, hI, hPI, hPm, hC1, hC2, hR, hl, hk⟩ := h9
  exact k9 y1 y2 y3 y6 y7 y8 y9 rvs rn ces cep kvs pes pep pkvs ts hI hPI hPm hC1 hC2 hR hl hk
inductive F4Inv (L : Int) (tL : Tok) (kd pd rd chd D3 k0 ml : Addr) (tu : Bool) (q : Int) (tq : Tok) (o1 : Obj) (cw ck : List Ent) (W : List (List Int)) (lvs rvs : List Value) (R : List Row3) (ts' : List Ent) (ces' pes : Array DictEntry) (cep' pep : Nat) (y1 y2 y3 : Option Value) (kk : Nat) (ls : Locs) (led : Led) : Prop
  | mk (y8 y9 : Option Value) (rvs2 : List Value) (rn2 : Nat) (ts2 : List Ent) (more : List Value) (e1 : ls = fontLs L tL kd pd tu y1 y2 y3 (some (.ref rd)) (some (.ref chd)) (some (.int q tq)) (some (.ref ml)) y8 y9)
    (e2 : led = [[(rd, listOf (List.toArray rvs2) rn2)], [(chd, dictO ces' cep')], [(D3, listOf (List.toArray lvs) 0)], ts2, [(pd, dictO pes pep)], [(k0, o1)], cw, ck]) (hsub : ∀ x ∈ ts', x ∈ ts2) (hm : rvs2 = rvs ++ more) (hl : more.length = kk) (hR : RowF L W ts2 rvs2 (rvs.length + R.length))
    (hA : ∀ k' r, k' < kk → R[k']? = some r → RowAt ts2 rvs2 (rvs.length + k') (if k' + 1 = R.length then 128 else 0) r) : F4Inv L tL kd pd rd chd D3 k0 ml tu q tq o1 cw ck W lvs rvs R ts' ces' pes cep' pep y1 y2 y3 kk ls led
theorem F4Inv.el {L : Int} {tL : Tok} {kd pd rd chd D3 k0 ml : Addr} {tu : Bool} {q : Int} {tq : Tok} {o1 : Obj} {cw ck : List Ent} {W : List (List Int)} {lvs rvs : List Value} {R : List Row3} {ts' : List Ent} {ces' pes : Array DictEntry} {cep' pep : Nat} {y1 y2 y3 : Option Value} {kk : Nat} {ls : Locs} {led : Led} {G : Locs → Led → Prop} (h9 : F4Inv L tL kd pd rd chd D3 k0 ml tu q tq o1 cw ck W lvs rvs R ts' ces' pes cep' pep y1 y2 y3 kk ls led) (k9 : ∀ (y8 y9 : Option Value) (rvs2 : List Value) (rn2 : Nat) (ts2 : List Ent) (more : List Value) (hsub : ∀ x ∈ ts', x ∈ ts2) (hm : rvs2 = rvs ++ more) (hl : more.length = kk) (hR : RowF L W ts2 rvs2 (rvs.length + R.length)) (hA : ∀ k' r, k' < kk → R[k']? = some r → RowAt ts2 rvs2 (rvs.length + k') (if k' + 1 = R.length then 128 else 0) r), G (fontLs L tL kd pd tu y1 y2 y3 (some (.ref rd)) (some (.ref chd)) (some (.int q tq)) (some (.ref ml)) y8 y9) ([[(rd, listOf (List.toArray rvs2) rn2)], [(chd, dictO ces' cep')], [(D3, listOf (List.toArray lvs) 0)], ts2, [(pd, dictO pes pep)], [(k0, o1)], cw, ck])) : G ls led := by
  obtain ⟨y8, y9, rvs2, rn2, ts2, more, rfl, rfl, hsub, hm, hl, hR, hA⟩ := h9
  exact k9 y8 y9 rvs2 rn2 ts2 more hsub hm hl hR hA
set_option maxHeartbeats 32000000 in
theorem font_spec {wd kd : Addr} {L : Int} {tL : Tok} {cw ck : List Ent} {W : List (List Int)} {Kn : List (List Int × Int)} {tu : Bool} (hL : 2 ≤ L) (hL2 : L ≤ 4) (hW : Words wd W cw) (hG : GoodW L W) (hWl : W.length ≤ 10) (hKn : KernsC kd Kn ck) (hGK : GoodK L W Kn) (hKl : Kn.length ≤ 4) :
    Fn 9 440 [.int L tL, .ref wd, .ref kd, .bool tu] [cw, ck] fun r fp => ∃ x dx dc tp kt pvs ts c, r = .ref x ∧ FontO x dx dc tp kt pvs ts (fmOf L W Kn tu) c ∧ fp = [c, cw, ck] := by
  refine letG ?_; intro G9
  obtain ⟨hlo, esW, epW, xsW, tsW, ecw, hT, hX⟩ := hW
  unfold G9; clear G9
  refine letG ?_; intro G9
  obtain ⟨esK, epK, xsK, tsK, hloK, eck, hTK, hkK, hvK⟩ := hKn
  unfold G9; clear G9
  have mW : (wd, dictO esW epW) ∈ cw := by rw [ecw]; exact .head _
  have mK : (kd, dictO esK epK) ∈ ck := by rw [eck]; exact .head _
  have mtW : ∀ y ∈ tsW, y ∈ cw := fun y h => by rw [ecw]; exact .tail _ h
  have mtK : ∀ y ∈ tsK, y ∈ ck := fun y h => by rw [eck]; exact .tail _ h
  clear ecw eck
  refine fn_introC (binds := [((Str.ofString "letters"), .int L tL), ((Str.ofString "words"), .ref wd), ((Str.ofString "kerns"), .ref kd), ((Str.ofString "is_turned"), .bool tu)]) (gl' := [((Str.ofString "range"), .type "range"), ((Str.ofString "list"), .type "list"), ((Str.ofString "len"), .builtin "len"), ((Str.ofString "enumerate"), .type "enumerate"), ((Str.ofString "tuple"), .type "tuple"), ((Str.ofString "Font"), .ref 259)])
    (ls0 := [((Str.ofString "letters"), some (.int L tL)), ((Str.ofString "kerns"), some (.ref kd)), ((Str.ofString "is_turned"), some (.bool tu)), ((Str.ofString "parts"), none), ((Str.ofString "word"), none), ((Str.ofString "left"), none), ((Str.ofString "pair"), none), ((Str.ofString "rows"), none), ((Str.ofString "chars"), none), ((Str.ofString "code"), none), ((Str.ofString "mine"), none), ((Str.ofString "k"), none), ((Str.ofString "row"), none)]) (H := ?_)
  intro Γ K k0 cells hr hc hK hN hcells _
  refine letG ?_; intro G9
  obtain ⟨o1, rfl, ho1⟩ := hcells.one
  unfold G9; clear G9
  replace ho1 : o1.data = .cell (some (.ref wd)) := ho1
  clear hcells
  show WP Γ _ [((Str.ofString "words"), k0)] _ ([(k0, o1)] :: [cw, ck]) _ _
  refine w_execs_cons <| w_Assign <| w_Dict0 fun _ _ => w_store (by assumption) (by kpt_turns) ?_
  refine seq_next <| w_execs_cons ?_
  rename_i pd hpd
  refine w_for4 ?_
  refine w_cell (by exact rfl) (by kcf_m) (by assumption) ?_
  refine ⟨esW.size, _, _, F1Inv L tL kd pd k0 tu o1 cw ck (fun i c => ligN W c i) 0, _, IterOf.three (iter_dict (by kcf_m) hlo) (by intro _ _; rfl),
    drop_ (l := [[(pd, dictO #[] 0)], [(k0, o1)], cw, ck]) (l2 := [[(pd, dictO #[] 0)], [], [(k0, o1)], cw, ck]) (by kpf_close) rfl ⟨_, _, _, _, _, [], [], rfl, rfl, IDict.nil, (fun c => rfl), by simp⟩, ?_, ?_, ?_⟩
  · rintro i ls led ⟨y1, y2, y3, es, ep, kvs, ts, rfl, rfl, hI, hP, hl⟩; exact by kcf_m
  · rintro i v own ls led K1 hi hP9 hI9
    apply dicN_el hP9; intro en hen
    apply hI9.el; intro y1 y2 y3 es ep kvs ts hI hP hl
    rintro hK1 -
    obtain ⟨w, ha⟩ : ∃ w, W[i]? = some w := ⟨_, List.getElem?_eq_getElem (by rw [hT.size, hX.len] at hi; exact hi)⟩
    refine letG ?_; intro G9
    obtain ⟨wa, wvs, wt, hxi, hwm, hwv⟩ := hX.at ha
    unfold G9; clear G9
    refine letG ?_; intro G9
    obtain ⟨k', a', v', rfl, hxi'⟩ := hT.get hen
    unfold G9; clear G9
    rw [hxi] at hxi'
    cases hxi'
    have hwm := mtW _ hwm
    have hwl := hwv.length
    have hw3 := hG.1 w (List.mem_of_getElem? ha)
    rw [hT.size, hX.len] at hi
    refine w_assignName <| w_store (by assumption) (by kpt_turns) ?_
    refine w_execs_cons <| w_Assign <| w_IfExp <| w_tCompare1 <| w_CallName <| w_glob rfl <| w_callB <| w_items_cons <| w_loc rfl <| w_items_nil <| w_lenT (by kcf_m) (by kdl_here) fun _ => ?_
    refine w_int fun _ => w_eq <| w_truthyB ?_
    refine ite_cutD (fun v => ∃ t, v = .int (leftCode W w) t) (fun h2 => ?_) (fun h2 => ?_) ?_
    · have h2 : w.length = 2 := by lia
      obtain ⟨u, e⟩ := ints_get hwv (k := 0) (by kdl_here)
      refine w_Subscript <| w_loc rfl <| w_int fun _ => ?_
      refine w_subT (by kcf_m) (by decide) (by decide) e ?_ (by with_unfolding_all rfl)
      refine ⟨rfl, drop_ (by kpf_close) rfl rfl, u, ?_⟩
      unfold leftCode
      rw [if_pos h2]
      cases w with | nil => cases h2 | cons a r => rfl
    · have h2 : w.length = 3 := by lia
      obtain ⟨j, hj⟩ := List.mem_iff_getElem?.mp (hG.2.1 w (List.mem_of_getElem? ha) h2)
      refine letG ?_; intro G9
      obtain ⟨wa2, wvs2, wt2, hxj, hwm2, hwv2⟩ := hX.at hj
      unfold G9; clear G9
      refine w_Subscript <| w_cell (by exact rfl) (by kcf_m) (by assumption) ?_
      refine w_Subscript <| w_loc rfl <| w_Slice <| w_partNone <| w_partSome <| w_UnaryOp <| w_int fun _ => w_neg fun _ => w_partNone <| all_sl fun _ => ?_
      refine w_sliceT (k := 2) (by kcf_m) (by kcf_m) (by rw [if_pos (by decide)]; lia) (by kdl_here) (fun h => by lia) (fun _ a4 => ?_) (by with_unfolding_all rfl) (by intro _; with_unfolding_all rfl)
      refine w_itemT (by kcf_m) hT (hX.keys fun y h => by simp [mtW y h]) (by kcf_m) (hwv.take 2) (atKey_at hT.2 (List.mem_of_getElem? hxj)) ?_ (by with_unfolding_all rfl) (by intro _; with_unfolding_all rfl)
      refine ⟨rfl, drop_ (by kpf_close) rfl rfl, wt2, ?_⟩
      unfold leftCode
      rw [if_neg (by kdl_here), idxOf_get hG.2.2 hj]
    · rintro v led' hdr ⟨tl, rfl⟩
      refine WP.ofDrop hdr ?_
      rintro l rfl
      have hl1 := ligN_len W (leftCode W w) i
      refine letG ?_; intro G9
      obtain ⟨wvs', lt, rfl, hwl2⟩ := ints_last hwv (fun e => by rw [e] at hw3; rcases hw3.1 with h | h <;> cases h)
      unfold G9; clear G9
      refine w_store (by assumption) (by kpt_turns) ?_
      refine seq_next <| w_execs_cons <| w_AssignSub <| w_BinOp <| w_CallAttr <| w_loc rfl <| w_getM (by kcf_m) ?_
      refine w_callBm <| w_items_cons <| w_loc rfl <| w_items_cons <| w_List <| w_items_nil <| w_newList (by kdl_here) fun _ => ?_
      refine w_items_nil ?_
      rename_i nl
      refine letG ?_; intro G9
      obtain ⟨l, rvs, n, hget, hm, hR⟩ := hP.get (leftCode W w) nl 0
      unfold G9; clear G9
      have hRl := hR.length
      refine w_getI (by kcf_m) hI hpd ?_
      rw [hget]
      refine w_List <| w_items_cons <| w_Tuple <| w_items_cons <| w_Subscript <| w_loc rfl <| w_UnaryOp <| w_int fun _ => w_neg fun _ => ?_
      refine w_subTLast (by kcf_m) (by kdl_here) ?_ (by with_unfolding_all rfl)
      refine w_items_cons <| w_int fun _ => w_items_cons <| w_Subscript <| w_cell (by exact rfl) (by kcf_m) (by assumption) ?_
      refine w_loc rfl ?_
      refine w_itemT (by kcf_m) hT (hX.keys fun y h => by simp [mtW y h]) (by kcf_m) hwv (atKey_at hT.2 (List.mem_of_getElem? hxi)) ?_ (by with_unfolding_all rfl) (by intro _; with_unfolding_all rfl)
      refine w_items_nil <| w_newTuple (by kdl_here) fun _ => ?_
      refine w_items_nil <| w_newList (by kdl_here) fun _ => ?_
      rename_i z0 tu1 nl1
      refine w_addL (vs := rvs) (ws := [.ref tu1]) (n := n) (n2 := 0) (.of_mem (by rcases List.mem_cons.mp hm with h | h <;> simp [h])) (by kcf_m) (by show rvs.length + 1 ≤ 100000; lia) (fun l2 => ?_)
      refine w_loc rfl <| w_loc rfl ?_
      refine w_setI (by kcf_m) hI (by kdl_here) (fun es' ep' hI' => ⟨_, by kcj_m, ?_⟩)
      refine seq_next <| w_execs_nil ?_
      refine hK1 _ _ _ trivial <| drop_ (l := [[(pd, dictO es' ep')], [(l2, listOf (List.toArray (rvs ++ [.ref tu1])) 0)], [(tu1, tupO [.int (w.getLastD 0) lt, .int 0 z0, .int (20 + (i : Int)) wt])], ts, [(k0, o1)], cw, ck]) (l2 := [[(pd, dictO es' ep')], (l2, listOf (List.toArray (rvs ++ [.ref tu1])) 0) :: (tu1, tupO [.int (w.getLastD 0) lt, .int 0 z0, .int (20 + (i : Int)) wt]) :: ts, [(k0, o1)], cw, ck]) (by kpf_close) rfl
        ⟨_, _, _, es', ep', _, _, rfl, rfl, hI', hP.put (Pm' := fun c => ligN W c (i + 1)) (fun x h => .tail _ (.tail _ h)) (.head _) ?_ (fun d hd => ?_), Nat.le_trans (stored_length_le _ _ _) (by kdl_here)⟩
      · rw [ligN, ha]
        dsimp only
        rw [if_pos rfl]
        refine .snoc tu1 (w.getLastD 0, 0, 20 + (i : Int)) lt z0 wt ?_ (.tail _ (.head _))
        exact hR.mono fun x h => .tail _ (.tail _ h)
      · rw [ligN, ha]
        dsimp only
        rw [if_neg fun q => hd q.symm]
  · rintro ls led hI9
    apply hI9.el; intro y1 y2 y3 es ep kvs ts hI hP hl
    rw [hT.size, hX.len] at *
    refine seq_next ?_
    refine w_execs_cons ?_
    refine w_for4 ?_
    have hP0 : PartsR kvs ts (fun c => ligN W c W.length ++ kerN Kn c 0) := by
      have e : (fun c => ligN W c W.length ++ kerN Kn c 0) = fun c => ligN W c W.length := funext fun c => List.append_nil _
      rw [e]; exact hP
    refine w_loc rfl ?_
    refine ⟨esK.size, _, _, F1Inv L tL kd pd k0 tu o1 cw ck (fun i c => ligN W c W.length ++ kerN Kn c i) 20, _, IterOf.three (iter_dict (by kcf_m) hloK) (by intro _ _; rfl),
      drop_ (by kpf_close) rfl ⟨_, _, _, es, ep, kvs, ts, rfl, rfl, hI, hP0, by lia⟩, ?_, ?_, ?_⟩
    · rintro i ls led ⟨y1, y2, y3, es, ep, kvs, ts, rfl, rfl, hI, hP, hl⟩; exact by kcf_m
    · rintro i v own ls led K1 hi hP9 hI9
      apply dicN_el hP9; intro en hen
      apply hI9.el; intro y1 y2 y3 es ep kvs ts hI hP hl
      rintro hK1 -
      refine letG ?_; intro G9
      obtain ⟨kk, pa, kv, rfl, hxi⟩ := hTK.get hen
      unfold G9; clear G9
      refine letG ?_; intro G9
      obtain ⟨kw, kt, e, hKi⟩ := hvK.get hxi
      unfold G9; clear G9
      obtain rfl : kv = .int kw kt := e
      refine letG ?_; intro G9
      obtain ⟨pvs, hpm, hpv⟩ := hkK _ (List.mem_of_getElem? hxi)
      unfold G9; clear G9
      refine letG ?_; intro G9
      obtain ⟨⟨c, l, ws, rfl, -⟩, -⟩ := hGK.1 _ (List.mem_of_getElem? hKi)
      unfold G9; clear G9
      have hpm := mtK _ hpm
      obtain ⟨t1, t2, rfl⟩ : ∃ t1 t2, pvs = [.int c t1, .int l t2] := by
        cases hpv with
        | cons _ t1 h => cases h with
          | cons _ t2 h => cases h; exact ⟨t1, t2, rfl⟩
      have hl1 := ligN_len W c W.length
      have hl2 := kerN_len Kn c i
      have hi2 : i < 100 := by rw [hTK.size, hvK.length] at hi; lia
      refine w_assignName <| w_store (by assumption) (by kpt_turns) ?_
      refine w_execs_cons <| w_AssignSub <| w_BinOp <| w_CallAttr <| w_loc rfl <| w_getM (by kcf_m) ?_
      refine w_callBm <| w_items_cons <| w_Subscript <| w_loc rfl <| w_int fun _ => w_subT (by kcf_m) (by decide) (by decide) (by exact rfl) ?_
      refine w_items_cons <| w_List <| w_items_nil <| w_newList (by kdl_here) fun _ => ?_
      refine w_items_nil ?_
      rename_i nl
      refine letG ?_; intro G9
      obtain ⟨ll, rvs, n, hget, hm, hR⟩ := hP.get c nl 0
      unfold G9; clear G9
      have hRl := hR.length
      rw [List.length_append] at hRl
      refine w_getI (by kcf_m) hI hpd ?_
      rw [hget]
      refine w_List <| w_items_cons <| w_Tuple <| w_items_cons <| w_Subscript <| w_loc rfl <| w_int fun _ => w_subT (by kcf_m) (by decide) (by decide) (by exact rfl) ?_
      refine w_items_cons <| w_int fun _ => w_items_cons <| w_Subscript <| w_loc rfl <| w_loc rfl ?_
      refine w_itemT (by kcf_m) hTK (hkK.keys fun y h => by simp [mtK y h]) (by kcf_m) hpv (atKey_at hTK.2 (List.mem_of_getElem? hxi)) ?_ (by with_unfolding_all rfl) (by intro _; with_unfolding_all rfl)
      refine w_items_nil <| w_newTuple (by kdl_here) fun _ => ?_
      refine w_items_nil <| w_newList (by kdl_here) fun _ => ?_
      rename_i z0 tu1 nl1
      refine w_addL (vs := rvs) (ws := [.ref tu1]) (n := n) (n2 := 0) (.of_mem (by rcases List.mem_cons.mp hm with h | h <;> simp [h])) (by kcf_m) (by show rvs.length + 1 ≤ 100000; lia) (fun l2 => ?_)
      refine w_loc rfl <| w_Subscript <| w_loc rfl <| w_int fun _ => w_subT (by kcf_m) (by decide) (by decide) (by exact rfl) ?_
      refine w_setI (by kcf_m) hI (by kdl_here) (fun es' ep' hI' => ⟨_, by kcj_m, ?_⟩)
      refine seq_next <| w_execs_nil ?_
      refine hK1 _ _ _ trivial <| drop_ (l := [[(pd, dictO es' ep')], [(l2, listOf (List.toArray (rvs ++ [.ref tu1])) 0)], [(tu1, tupO [.int l t2, .int 128 z0, .int kw kt])], ts, [(k0, o1)], cw, ck]) (l2 := [[(pd, dictO es' ep')], (l2, listOf (List.toArray (rvs ++ [.ref tu1])) 0) :: (tu1, tupO [.int l t2, .int 128 z0, .int kw kt]) :: ts, [(k0, o1)], cw, ck]) (by kpf_close) rfl
        ⟨_, _, _, es', ep', _, _, rfl, rfl, hI', hP.put (Pm' := fun c => ligN W c W.length ++ kerN Kn c (i + 1)) (fun x h => .tail _ (.tail _ h)) (.head _) ?_ (fun d hd => ?_), Nat.le_trans (stored_length_le _ _ _) (by kdl_here)⟩
      · rw [kerN, hKi]
        dsimp only
        rw [if_pos (show [c, l].headD 0 = c from rfl), ← List.append_assoc]
        refine .snoc tu1 (l, 128, kw) t2 z0 kt ?_ (.tail _ (.head _))
        exact hR.mono fun x h => .tail _ (.tail _ h)
      · rw [kerN, hKi]
        dsimp only
        rw [if_neg (show ¬ [c, l].headD 0 = d from fun q => hd q.symm)]
    · rintro ls led hI9
      apply hI9.el; intro y1 y2 y3 es ep kvs ts hI hP hl
      rw [hTK.size, hvK.length] at *
      replace hP : PartsR kvs ts (fun c => ligN W c W.length ++ kerN Kn c Kn.length) := hP
      have hPl : ∀ c, (ligN W c W.length ++ kerN Kn c Kn.length).length ≤ 14 := fun c => by
        have := ligN_len W c W.length
        have := kerN_len Kn c Kn.length
        rw [List.length_append]; lia
      have hpd2 := hpd
      refine seq_next <| w_execs_cons ?_
      refine w_AssignSw (oa := none) (ob := none) rfl rfl ?_ ?hw
      case hw =>
        intro env h1 h2 h3
        unfold swappedStores
        simp only [h1, h2, h3, List.filterMap]
        kernel_rfl
      refine w_Tuple <| w_items_cons <| w_List <| w_items_nil <| w_newList (by kdl_here) fun _ => ?_
      refine w_items_cons <| w_Dict0 fun _ _ => w_items_nil <| w_newTuple (by kdl_here) fun _ => ?_
      rename_i rd chd hchd tup
      refine ⟨_, .ref rd, .ref chd, rfl, At.head (.head _), ?_⟩
      refine w_store (by assumption) (by kpt_turns) ?_
      refine w_store (by assumption) (by kpt_turns) ?_
      refine seq_next <| w_execs_cons ?_
      refine w_for4 ?_
      refine w_BinOp <| w_CallName <| w_glob rfl <| w_callT <| w_items_cons <| w_CallName <| w_glob rfl <| w_callT <| w_items_cons <| w_int fun _ => w_items_cons <| w_BinOp <| w_loc rfl <| w_int fun _ => w_add fun _ => w_items_nil <| w_range2 fun _ _ => w_items_nil ?_
      refine w_listR (n := L.toNat) (.head (.head _)) (small_one (by decide) (by kdl_here) (by kdl_here) (by kdl_here)) (by rw [rangeSize_one]; split <;> lia) (by kdl_here) (fun D1 c1 vs1 hi1 => ?_)
      refine w_ListComp hc (gl' := []) (cl' := [((Str.ofString "words"), k0)]) (CompOk.of rfl rfl rfl rfl rfl rfl (by intro p9; kqd_in)) ?_ (by intro _; rfl)
      refine w_cell (by exact rfl) (by kcf_m) (by assumption) ?_
      refine ⟨esW.size, _, _, fun j ys led => IntsAre ys (upInts 20 j) ∧ j ≤ W.length ∧ led = [[(D1, listOf (List.toArray vs1) c1)], [(rd, listOf (List.toArray []) 0)], [(chd, dictO #[] 0)], [(pd, dictO es ep)], ts, [(k0, o1)], cw, ck], iter_dict (by kcf_m) hlo,
        drop_ (by kpf_close) rfl ⟨.nil, Nat.zero_le _, rfl⟩, ?_, ?_, ?_⟩
      · rintro j ys led ⟨hys, hj, rfl⟩
        have := hys.length
        rw [upInts_len] at this
        exact ⟨by kcf_m, by lia⟩
      · rintro Γc j v ys led K2 hrc ⟨mc, hcc⟩ hj ⟨en, hen, rfl⟩ ⟨hys, hj2, rfl⟩ hK2
        rw [hT.size, hX.len] at hj
        obtain ⟨w, ha⟩ : ∃ w, W[j]? = some w := ⟨_, List.getElem?_eq_getElem hj⟩
        refine letG ?_; intro G9
        obtain ⟨wa, wvs, wt, hxi, hwm, hwv⟩ := hX.at ha
        unfold G9; clear G9
        refine letG ?_; intro G9
        obtain ⟨k', a', v', rfl, hxi'⟩ := hT.get hen
        unfold G9; clear G9
        rw [hxi] at hxi'
        cases hxi'
        have hwm := mtW _ hwm
        refine w_Subscript <| w_cell (by exact rfl) (by kcf_m) (by assumption) ?_
        refine w_loc rfl ?_
        refine w_itemT (by kcf_m) hT (hX.keys fun y h => by simp [mtW y h]) (by kcf_m) hwv (atKey_at hT.2 (List.mem_of_getElem? hxi)) ?_ (by with_unfolding_all rfl) (by intro _; with_unfolding_all rfl)
        refine hK2 _ _ _ <| drop_ (by kpf_close) rfl ⟨?_, hj, rfl⟩
        rw [upInts_snoc]
        exact hys.append (.cons _ _ .nil)
      · rintro D2 cnt2 ys2 led' ⟨hys2, -, rfl⟩
        rw [hT.size, hX.len] at hys2
        have hl1 := hi1.length
        have hl2 := hys2.length
        rw [upInts_len] at hl1 hl2
        refine w_addL (by kcf_m) (by kcf_m) (by kdl_here) (fun D3 => ?_)
        have hcodes : IntsAre (vs1 ++ ys2) (codesOf L W) := hi1.append hys2
        have hlc : (vs1 ++ ys2).length ≤ 14 := by rw [List.length_append]; lia
        generalize vs1 ++ ys2 = lvs at *
        refine ⟨lvs.length, _, _, F3Inv L tL kd pd rd chd D3 k0 tu o1 cw ck W Kn lvs, _, IterOf.three (iter_list (by kcf_m)) (by intro _ _; rfl),
          drop_ (by kpf_close) rfl ⟨_, _, _, _, _, _, _, [], 0, #[], 0, [], es, ep, _, ts, rfl, rfl, IDict.nil, hI, hP, (fun _ h => nomatch h), (fun _ _ => rfl), (fun j v h => nomatch h), by simp, by simp⟩, ?_, ?_, ?_⟩
        · rintro i ls led ⟨y1, y2, y3, y6, y7, y8, y9, rvs, rn, ces, cep, kvs, pes, pep, pkvs, ts, rfl, rfl, hCI, hPI, hPm, hC1, hC2, hR, hrl, hkl⟩; exact by kcf_m
        · rintro i v own ls led K1 hi hP9 hI9
          apply lstN_el hP9; intro hv1
          apply hI9.el; intro y1 y2 y3 y6 y7 y8 y9 rvs rn ces cep kvs pes pep pkvs ts hCI hPI hPm hC1 hC2 hR hrl hkl
          rintro hK1 -
          refine letG ?_; intro G9
          obtain ⟨q, tq, rfl, hq⟩ := ints_all hcodes hv1
          unfold G9; clear G9
          have hqm := (codes_mem (by kdl_here)).mp (List.mem_of_getElem? hq)
          refine w_assignName <| w_store (by assumption) (by kpt_turns) ?_
          refine w_execs_cons <| w_Assign <| w_CallAttr <| w_loc rfl <| w_getM (by kcf_m) ?_
          refine w_callBm <| w_items_cons <| w_loc rfl <| w_items_cons <| w_List <| w_items_nil <| w_newList (by kdl_here) fun _ => ?_
          refine w_items_nil ?_
          rename_i nl
          refine letG ?_; intro G9
          obtain ⟨ml0, mvs0, n0, hget, hm0, hR30⟩ := hPm.get q nl 0
          unfold G9; clear G9
          refine w_getI (by kcf_m) hPI hpd ?_
          rw [hget]
          refine w_store (by assumption) (by kpt_turns) ?_
          refine seq_next <| w_execs_cons <| w_If <| w_tValue <| w_loc rfl <| w_truthyB ?_
          refine ite_cutS (fun ls' led' => ∃ ml mvs n ts', ls' = fontLs L tL kd pd tu y1 y2 y3 (some (.ref rd)) (some (.ref chd)) (some (.int q tq)) (some (.ref ml)) y8 y9 ∧ R3s ts' mvs (rowsOf W Kn tu q) ∧ (∀ x ∈ ts, x ∈ ts') ∧ (ml, listOf (List.toArray mvs) n) ∈ ts' ∧
            Drop (fun l => l = [[(rd, listOf (List.toArray rvs) rn)], [(chd, dictO ces cep)], [(D3, listOf (List.toArray lvs) 0)], ts', [(pd, dictO pes pep)], [(k0, o1)], cw, ck]) led') (fun htu => ?_) (fun htu => ?_) ?_
          · have hml := hR30.length
            have hPq := hPl q
            refine w_execs_cons <| w_Assign <| w_Subscript <| w_loc rfl <| w_Slice <| w_partNone <| w_partNone <| w_partSome <| w_UnaryOp <| w_int fun _ => w_neg fun _ => all_sl fun _ => ?_
            refine w_sliceL (its := mvs0) (n := n0) (.of_mem (by rcases List.mem_cons.mp hm0 with h | h <;> simp [h])) (by kcf_m) .none .none (.int _ _) (by decide) (slice_rev _) (by kdl_here) ?_ (by with_unfolding_all rfl) (by intro _; with_unfolding_all rfl)
            intro ml2
            refine w_store (by assumption) (by kpt_turns) ?_
            refine seq_next <| w_execs_nil ?_
            refine ⟨rfl, ml2, mvs0.reverse, 0, (ml2, listOf (List.toArray mvs0.reverse) 0) :: ts, rfl, ?_, (fun x h => .tail _ h), .head _, drop_ (l := [[(rd, listOf (List.toArray rvs) rn)], [(chd, dictO ces cep)], [(D3, listOf (List.toArray lvs) 0)], [(ml2, listOf (List.toArray mvs0.reverse) 0)], ts, [(pd, dictO pes pep)], [(k0, o1)], cw, ck]) (l2 := [[(rd, listOf (List.toArray rvs) rn)], [(chd, dictO ces cep)], [(D3, listOf (List.toArray lvs) 0)], (ml2, listOf (List.toArray mvs0.reverse) 0) :: ts, [(pd, dictO pes pep)], [(k0, o1)], cw, ck]) (by kpf_close) rfl rfl⟩
            unfold rowsOf
            rw [if_pos htu]
            exact hR30.rev.mono fun x h => .tail _ h
          · refine w_execs_nil ?_
            refine ⟨rfl, ml0, mvs0, n0, (nl, listOf (List.toArray []) 0) :: ts, rfl, ?_, (fun x h => .tail _ h), hm0, drop_ (l := [[(rd, listOf (List.toArray rvs) rn)], [(chd, dictO ces cep)], [(D3, listOf (List.toArray lvs) 0)], [(nl, listOf (List.toArray []) 0)], ts, [(pd, dictO pes pep)], [(k0, o1)], cw, ck]) (l2 := [[(rd, listOf (List.toArray rvs) rn)], [(chd, dictO ces cep)], [(D3, listOf (List.toArray lvs) 0)], (nl, listOf (List.toArray []) 0) :: ts, [(pd, dictO pes pep)], [(k0, o1)], cw, ck]) (by kpf_close) rfl rfl⟩
            unfold rowsOf
            rw [if_neg (by rw [htu]; decide)]
            exact hR30.mono fun x h => .tail _ h
          · rintro ls' led' ⟨ml, mvs, n, ts', rfl, hR3, hsub, hml, hdr⟩
            refine seq_next ?_
            refine WP.ofDrop hdr ?_
            rintro l rfl
            have hRg := fun {r : Row3} (h : r ∈ rowsOf W Kn tu q) => rowsOf_good hG hGK h
            have hRlen := rowsOf_len (W := W) (Kn := Kn) (tu := tu) q
            have hmvl := hR3.length
            generalize hRd : rowsOf W Kn tu q = R at *
            refine w_execs_cons <| w_AssignSub <| w_Tuple <| w_items_cons <| w_BinOp <| w_int fun _ => w_loc rfl <| w_mul (by first | exact .of_left (by decide) | exact .of_right (by decide)) fun _ => ?_
            refine w_items_cons <| w_int fun _ => w_items_cons <| w_int fun _ => w_items_cons <| w_int fun _ => w_items_cons <| w_IfExp <| w_tCompare1 <| w_loc rfl <| w_List <| w_items_nil <| w_newList (by kdl_here) fun _ => ?_
            refine w_r3Ne (by kcf_m) (by kcf_m) hR3 (fun x h => by simp [h]) ?_
            refine w_truthyB ?_
            refine ite_cutN (fun v => ∃ t, v = .int (if R = [] then 0 else 1) t) (fun h => ?_) (fun h => ?_) ?_
            · refine w_int fun _ => ?_
              exact ⟨rfl, drop_ (by kpf_close) rfl rfl, _, by rw [if_neg h]⟩
            · refine w_int fun _ => ?_
              exact ⟨rfl, drop_ (by kpf_close) rfl rfl, _, by rw [if_pos h]⟩
            rintro v ledA hdrA ⟨t4, rfl⟩
            refine WP.ofDrop hdrA ?_
            rintro l rfl
            refine w_items_cons <| w_IfExp <| w_tCompare1 <| w_loc rfl <| w_List <| w_items_nil <| w_newList (by kdl_here) fun _ => ?_
            refine w_r3Ne (by kcf_m) (by kcf_m) hR3 (fun x h => by simp [h]) ?_
            refine w_truthyB ?_
            refine ite_cutN (fun v => ∃ t, v = .int (if R = [] then 0 else (rvs.length : Int)) t) (fun h => ?_) (fun h => ?_) ?_
            · refine w_CallName <| w_glob rfl <| w_callB <| w_items_cons <| w_loc rfl <| w_items_nil <| w_lenL (by kcf_m) (by kdl_here) fun _ => ?_
              exact ⟨rfl, drop_ (by kpf_close) rfl rfl, _, by rw [if_neg h]⟩
            · refine w_int fun _ => ?_
              exact ⟨rfl, drop_ (by kpf_close) rfl rfl, _, by rw [if_pos h]⟩
            rintro v ledB hdrB ⟨t5, rfl⟩
            refine WP.ofDrop hdrB ?_
            rintro l rfl
            refine w_items_nil <| w_newTuple (by kdl_here) fun _ => ?_
            refine w_loc rfl <| w_loc rfl ?_
            rename_i u1 u2 u3 u4 nb1 nb2 ca
            refine w_setI (by kcf_m) hCI (by kdl_here) (fun ces' cep' hCI' => ⟨_, by kcj_m, ?_⟩)
            refine seq_next <| w_execs_cons ?_
            refine w_for4 ?_
            refine w_CallName <| w_glob rfl <| w_callT <| w_items_cons <| w_loc rfl <| w_items_nil ?_
            refine w_enumL (vs := mvs) (n := n) (by kcf_m) (fun e it oi he h1 h2 h3 => ?_)
            refine ⟨mvs.length, _, _, F4Inv L tL kd pd rd chd D3 k0 ml tu q tq o1 cw ck W lvs rvs R ((ca, tupO [.int (1000 * q) u1, .int 0 u2, .int 0 u3, .int 0 u4, .int (if R = [] then 0 else 1) t4, .int (if R = [] then 0 else (rvs.length : Int)) t5]) :: ts') ces' pes cep' pep y1 y2 y3, _, iter_enumL (by kcf_m) he h1 h2 h3,
              drop_ (l := [[(rd, listOf (List.toArray rvs) rn)], [(chd, dictO ces' cep')], [(D3, listOf (List.toArray lvs) 0)], [(ca, tupO [.int (1000 * q) u1, .int 0 u2, .int 0 u3, .int 0 u4, .int (if R = [] then 0 else 1) t4, .int (if R = [] then 0 else (rvs.length : Int)) t5])], ts', [(pd, dictO pes pep)], [(k0, o1)], cw, ck]) (l2 := [[(rd, listOf (List.toArray rvs) rn)], [(chd, dictO ces' cep')], [(D3, listOf (List.toArray lvs) 0)], (ca, tupO [.int (1000 * q) u1, .int 0 u2, .int 0 u3, .int 0 u4, .int (if R = [] then 0 else 1) t4, .int (if R = [] then 0 else (rvs.length : Int)) t5]) :: ts', [(pd, dictO pes pep)], [(k0, o1)], cw, ck]) (by kpf_close) rfl
                ⟨_, _, rvs, rn, _, [], rfl, rfl, (fun _ h => h), by simp, rfl, hR.mono (fun x h => .tail _ (hsub x h)) (by kdl_here), (fun k' r h => absurd h (Nat.not_lt_zero _))⟩, ?_, ?_, ?_⟩
            · rintro j ls led hI9
              apply hI9.el; intro y8 y9 rvs2 rn2 ts2 more hs2 h9r hmore hR2 hA
              obtain rfl := h9r
              have := hs2 _ (.tail _ hml)
              exact by kcf_m
            · rintro j v own ls led K2 hj hP9 hI9
              apply enu_el hP9; intro pa x t hx
              apply hI9.el; intro y8 y9 rvs2 rn2 ts2 more hs2 h9r hmore hR2 hA
              obtain rfl := h9r
              rintro hK2 -
              refine letG ?_; intro G9
              obtain ⟨ra, r, t1, t2, t3, rfl, hr, hrm⟩ := hR3.get hx
              unfold G9; clear G9
              have hml2 := hs2 _ (.tail _ hml)
              have hrm2 := hs2 _ (.tail _ hrm)
              have hgr := hRg (List.mem_of_getElem? hr)
              have hrl2 : (rvs ++ more).length = rvs.length + j := by rw [List.length_append, hmore]
              refine w_assignTup (by kcf_m) (by exact rfl) (by exact rfl) ?_
              refine w_inOrder_cons rfl <| w_assignName <| w_store (by assumption) (by kpt_turns) ?_
              refine w_inOrder_cons rfl <| w_assignName <| w_store (by assumption) (by kpt_turns) ?_
              refine w_inOrder_nil <| w_execs_cons <| w_Expr <| w_CallAttr <| w_loc rfl <| w_meth (by kcf_m) PySem.F.slot_list_append PySem.F.type_list_append ?_
              refine w_callBm <| w_items_cons <| w_BinOp <| w_Tuple <| w_items_cons <| w_IfExp <| w_tCompare1 <| w_BinOp <| w_loc rfl <| w_int fun _ => w_add fun _ => w_CallName <| w_glob rfl <| w_callB <| w_items_cons <| w_loc rfl <| w_items_nil <| w_lenL (by kcf_m) (by kdl_here) fun _ => ?_
              refine w_eq <| w_truthyB ?_
              refine ite_cutD (fun v => ∃ t, v = .int (if j + 1 = R.length then 128 else 0) t) (fun h => ?_) (fun h => ?_) ?_
              · refine w_int fun _ => ?_
                exact ⟨rfl, drop_ (by kpf_close) rfl rfl, _, by rw [if_pos (by kdl_here)]⟩
              · refine w_int fun _ => ?_
                exact ⟨rfl, drop_ (by kpf_close) rfl rfl, _, by rw [if_neg (by kdl_here)]⟩
              rintro v ledC hdrC ⟨t6, rfl⟩
              refine WP.ofDrop hdrC ?_
              rintro l rfl
              refine w_items_nil <| w_newTuple (by kdl_here) fun _ => ?_
              refine w_loc rfl ?_
              refine w_addT (vs := [.int (if j + 1 = R.length then 128 else 0) t6]) (ws := [.int r.1 t1, .int r.2.1 t2, .int r.2.2 t3]) (by kcf_m) (by kcf_m) (Nat.le_of_ble_eq_true rfl) (fun e => nomatch e) (fun _ e => nomatch e) (fun _ _ a8 => ?_)
              refine w_items_nil <| w_isAppend <| w_append (by kcj_m) (by kdl_here) ?_
              refine none_and <| seq_next <| w_execs_nil ?_
              refine hK2 _ _ _ trivial <| drop_ (l := [[(rd, listOf (List.toArray ((rvs ++ more) ++ [.ref a8])) (rn2 + 1))], [(chd, dictO ces' cep')], [(D3, listOf (List.toArray lvs) 0)], [(a8, tupO [.int (if j + 1 = R.length then 128 else 0) t6, .int r.1 t1, .int r.2.1 t2, .int r.2.2 t3])], ts2, [(pd, dictO pes pep)], [(k0, o1)], cw, ck]) (l2 := [[(rd, listOf (List.toArray ((rvs ++ more) ++ [.ref a8])) (rn2 + 1))], [(chd, dictO ces' cep')], [(D3, listOf (List.toArray lvs) 0)], (a8, tupO [.int (if j + 1 = R.length then 128 else 0) t6, .int r.1 t1, .int r.2.1 t2, .int r.2.2 t3]) :: ts2, [(pd, dictO pes pep)], [(k0, o1)], cw, ck]) (by kpf_close) rfl
                ⟨_, _, _, _, _, more ++ [.ref a8], rfl, rfl, (fun x h => .tail _ (hs2 x h)), List.append_assoc _ _ _, by rw [List.length_append, hmore]; rfl, (hR2.mono (fun x h => .tail _ h) (Nat.le_refl _)).snoc (.head _) hgr ?_, fun k' r' hk' hr' => ?_⟩
              · by_cases hl : j + 1 = R.length
                · rw [if_pos hl]; exact .inr rfl
                · rw [if_neg hl]; exact .inl ⟨rfl, by lia⟩
              · by_cases hkj : k' < j
                · exact (hA k' r' hkj hr').mono fun x h => .tail _ h
                · have : k' = j := by lia
                  subst this
                  rw [hr] at hr'
                  cases hr'
                  exact ⟨a8, t6, t1, t2, t3, by rw [← hrl2, List.getElem?_append_right (Nat.le_refl _)]; simp, .head _⟩
            · rintro ls led hI9
              apply hI9.el; intro y8 y9 rvs2 rn2 ts2 more hs2 h9r hmore hR2 hA
              obtain rfl := h9r
              rw [hmvl] at *
              have hq2 := stored_length_le kvs q (.ref ca)
              have hi3 := hcodes.length
              refine seq_next <| w_execs_nil ?_
              refine hK1 _ _ _ trivial <| drop_ (by kpf_close) rfl ⟨_, _, _, _, _, _, _, _, _, _, _, _, _, _, _, _, rfl, rfl, hCI', hPI, hPm.mono fun x h => hs2 _ (.tail _ (hsub x h)), fun c hcm => ?_, fun c hcm => ?_, by rw [List.length_append, hmore]; exact hR2, by rw [List.length_append, hmore]; lia, by lia⟩
              · rw [List.take_add_one, hq] at hcm
                rw [valueAt_stored]
                by_cases e : c = q
                · subst e
                  rw [if_pos rfl]
                  refine ⟨_, rfl, ca, 1000 * c, _, u1, u2, u3, u4, t4, t5, rfl, by rw [hRd]; exact hs2 _ (.head _), by lia, by lia, ?_⟩
                  rw [hRd]
                  by_cases hR0 : R = []
                  · exact .inl ⟨hR0, if_pos hR0⟩
                  · exact .inr ⟨hR0, rvs.length, if_neg hR0, fun k' r hr => hA k' r (List.getElem?_eq_some_iff.mp hr).1 hr⟩
                · rw [if_neg e]
                  rcases List.mem_append.mp hcm with h | h
                  · refine letG ?_; intro G9
                    obtain ⟨v, hv, hW2⟩ := hC1 c h
                    unfold G9; clear G9
                    exact ⟨v, hv, hW2.mono fun x h => hs2 _ (.tail _ (hsub x h))⟩
                  · exact absurd (by simpa using h) e
              · rw [List.take_add_one, hq, List.mem_append, not_or] at hcm
                rw [valueAt_stored, if_neg (fun e => hcm.2 (by simp [e]))]
                exact hC2 c hcm.1
        · rintro ls led hI9
          apply hI9.el; intro y1 y2 y3 y6 y7 y8 y9 rvs rn ces cep kvs pes pep pkvs ts hCI hPI hPm hC1 hC2 hR hrl hkl
          have hcl := hcodes.length
          rw [hcl, List.take_length] at hC1 hC2
          have hsome : ∀ c ∈ codesOf L W, (valueAt kvs c).isSome := fun c h => by obtain ⟨v, hv, -⟩ := hC1 c h; rw [hv]; rfl
          refine seq_next <| w_execs_cons <| w_Return <| w_CallName <| w_glob rfl <| w_callK (by kd_p) ?_
          refine w_items_cons <| w_int fun _ => w_items_cons <| w_str fun _ => w_items_cons <| w_int fun _ => w_items_cons <| w_Tuple <| w_items_nil <| w_newTuple (by kdl_here) fun _ => ?_
          refine w_items_cons <| w_loc rfl <| w_items_cons <| w_CallName <| w_glob rfl <| w_callT <| w_items_cons <| w_loc rfl <| w_items_nil <| w_tupleL (by kcf_m) (by kdl_here) fun _ => ?_
          refine w_items_cons <| w_Tuple <| w_items_cons <| w_int fun _ => w_items_cons <| w_UnaryOp <| w_int fun _ => w_neg fun _ => w_items_nil <| w_newTuple (by kdl_here) fun _ => ?_
          refine w_items_nil ?_
          rename_i ft1 ft2 ft3 pt tp ku1 ku2 ku3 kt
          refine WP.ofDrop (J := fun l => l = [(tp, tupO rvs) :: (kt, tupO [.int 7001 ku1, .int (-3000) ku3]) :: (pt, tupO []) :: (chd, dictO ces cep) :: ts, cw, ck]) (drop_ (l := [[(tp, tupO rvs)], [(kt, tupO [.int 7001 ku1, .int (-3000) ku3])], [(pt, tupO [])], [(chd, dictO ces cep)], ts, cw, ck]) (l2 := [(tp, tupO rvs) :: (kt, tupO [.int 7001 ku1, .int (-3000) ku3]) :: (pt, tupO []) :: (chd, dictO ces cep) :: ts, cw, ck]) (by kpf_close) rfl rfl) ?_
          rintro l rfl
          refine w_callCls (fI := 186) (fun x dx => font_init_spec (fm := fmOf L W Kn tu) rfl hCI hchd (by kdl_here) (by kdl_here) (fun p hp => ?_) (fun i v e => hR.toG (by kdl_here) hL2 hWl hsome i v e) (fun code => ?_)) (by kdl_here) (by intro p9; exact ⟨by k_dflt k_is, by k_dflt k_is, by k_dflt k_is⟩) (by kpf_close) ?_
          · obtain ⟨j, hj⟩ := List.mem_iff_getElem?.mp hp
            have hat := valueAt_of_get hCI.2 hj
            have hcm : p.1 ∈ codesOf L W := Decidable.byContradiction fun h => by rw [hC2 _ h] at hat; cases hat
            refine letG ?_; intro G9
            obtain ⟨v, hv, hW2⟩ := hC1 _ hcm
            unfold G9; clear G9
            rw [hat] at hv
            cases hv
            have hcm2 := (codes_mem (by kdl_here)).mp hcm
            exact ⟨by lia, by lia, hW2.toG (by kdl_here)⟩
          · unfold fmOf
            by_cases hcm : code ∈ codesOf L W
            · rw [if_pos hcm]
              refine letG ?_; intro G9
              obtain ⟨v, hv, hW2⟩ := hC1 _ hcm
              unfold G9; clear G9
              exact ⟨v, hv, hW2.toAt⟩
            · rw [if_neg hcm]
              exact hC2 _ hcm
          rintro x dx v fp' ⟨rfl, dc, fts, c', hFont, rfl⟩
          refine ⟨rfl, ?_⟩
          refine seq_ret ?_
          exact hK _ _ _ <| drop_ (l := [c', cw, ck]) (by kpf_close) rfl ⟨x, dx, dc, tp, kt, rvs, fts, c', rfl, hFont, rfl⟩


theorem find_some_iff {α : Type} {p : α → Bool} {l : List α} (hu : ∀ a ∈ l, ∀ b ∈ l, p a = true → p b = true → a = b) {a : α} (ha : a ∈ l) (hp : p a = true) : l.find? p = some a := by
  cases h : l.find? p with
  | none => exact absurd hp (by simpa using List.find?_eq_none.mp h a ha)
  | some b => rw [hu b (List.mem_of_find?_eq_some h) a ha (List.find?_some h) hp]
theorem ligN_mem {W : List (List Int)} {c : Int} {r : Row3} : ∀ {i : Nat}, i ≤ W.length → (r ∈ ligN W c i ↔ ∃ j w, j < i ∧ W[j]? = some w ∧ leftCode W w = c ∧ r = (w.getLastD 0, 0, 20 + (j : Int)))
  | 0, _ => ⟨fun h => (by cases h), fun ⟨_, _, h, _⟩ => absurd h (Nat.not_lt_zero _)⟩
  | i + 1, hi => by
    have ih := ligN_mem (W := W) (c := c) (r := r) (i := i) (by lia)
    obtain ⟨w, hw⟩ : ∃ w, W[i]? = some w := ⟨_, List.getElem?_eq_getElem (by lia)⟩
    rw [ligN, hw]
    constructor
    · intro h
      have h : (r ∈ ligN W c i) ∨ (leftCode W w = c ∧ r = (w.getLastD 0, 0, 20 + (i : Int))) := by
        dsimp only at h
        split at h
        · rename_i e
          rcases List.mem_append.mp h with h | h
          · exact .inl h
          · exact .inr ⟨e, List.mem_singleton.mp h⟩
        · exact .inl h
      rcases h with h | ⟨h1, h2⟩
      · obtain ⟨j, w', a, b⟩ := ih.mp h
        exact ⟨j, w', Nat.lt_succ_of_lt a, b⟩
      · exact ⟨i, w, Nat.lt_succ_self i, hw, h1, h2⟩
    · rintro ⟨j, w', a, b, e1, e2⟩
      dsimp only
      by_cases q : j = i
      · subst q
        rw [hw] at b
        cases b
        rw [if_pos e1, e2]
        exact List.mem_append_right _ (.head _)
      · have : r ∈ ligN W c i := ih.mpr ⟨j, w', by lia, b, e1, e2⟩
        split
        · exact List.mem_append_left _ this
        · exact this
theorem kerN_mem {Kn : List (List Int × Int)} {c : Int} {r : Row3} : ∀ {i : Nat}, i ≤ Kn.length → (r ∈ kerN Kn c i ↔ ∃ j p, j < i ∧ Kn[j]? = some p ∧ p.1.headD 0 = c ∧ r = (p.1.getD 1 0, 128, p.2))
  | 0, _ => ⟨fun h => (by cases h), fun ⟨_, _, h, _⟩ => absurd h (Nat.not_lt_zero _)⟩
  | i + 1, hi => by
    have ih := kerN_mem (Kn := Kn) (c := c) (r := r) (i := i) (by lia)
    obtain ⟨w, hw⟩ : ∃ w, Kn[i]? = some w := ⟨_, List.getElem?_eq_getElem (by lia)⟩
    rw [kerN, hw]
    constructor
    · intro h
      have h : (r ∈ kerN Kn c i) ∨ (w.1.headD 0 = c ∧ r = (w.1.getD 1 0, 128, w.2)) := by
        dsimp only at h
        split at h
        · rename_i e
          rcases List.mem_append.mp h with h | h
          · exact .inl h
          · exact .inr ⟨e, List.mem_singleton.mp h⟩
        · exact .inl h
      rcases h with h | ⟨h1, h2⟩
      · obtain ⟨j, w', a, b⟩ := ih.mp h
        exact ⟨j, w', Nat.lt_succ_of_lt a, b⟩
      · exact ⟨i, w, Nat.lt_succ_self i, hw, h1, h2⟩
    · rintro ⟨j, w', a, b, e1, e2⟩
      dsimp only
      by_cases q : j = i
      · subst q
        rw [hw] at b
        cases b
        rw [if_pos e1, e2]
        exact List.mem_append_right _ (.head _)
      · have : r ∈ kerN Kn c i := ih.mpr ⟨j, w', by lia, b, e1, e2⟩
        split
        · exact List.mem_append_left _ this
        · exact this
theorem two_is {w : List Int} (h : w.length = 2) : ∃ a b, w = [a, b] := by
  match w, h with
  | [a, b], _ => exact ⟨a, b, rfl⟩
theorem three_is {w : List Int} (h : w.length = 3) : ∃ a b c, w = [a, b, c] := by
  match w, h with
  | [a, b, c], _ => exact ⟨a, b, c, rfl⟩
theorem kget_nd {Kn : List (List Int × Int)} (hn : (Kn.map (·.1)).Nodup) {k : List Int} {v : Int} (h : (k, v) ∈ Kn) : kget Kn k = some v := by
  induction Kn with
  | nil => cases h
  | cons p r ih =>
    rw [List.map_cons, List.nodup_cons] at hn
    unfold kget at ih ⊢
    rw [List.find?_cons]
    rcases List.mem_cons.mp h with h | h
    · subst h; simp
    · have : p.1 ≠ k := fun e => hn.1 (e ▸ List.mem_map_of_mem (f := (·.1)) h)
      simp only [this, decide_false]
      exact ih hn.2 h
theorem mem_kget {Kn : List (List Int × Int)} {k : List Int} {v : Int} (h : kget Kn k = some v) : (k, v) ∈ Kn := by
  unfold kget at h
  obtain ⟨p, h1, h2⟩ := Option.map_eq_some_iff.mp h
  have a := List.mem_of_find?_eq_some h1
  have b : p.1 = k := by simpa using List.find?_some h1
  rw [← b, ← h2]; exact a
section
variable {L : Int} {W : List (List Int)} {Kn : List (List Int × Int)} {tu : Bool}
theorem left_of (hL2 : L ≤ 4) (hG : GoodW L W) {c : Int} {np w : List Int} (hl : LeftOk L W c np) (hw : w ∈ W) (e : leftCode W w = c) : w = np ++ [w.getLastD 0] := by
  obtain ⟨hl1, hl2⟩ := hG.1 w hw
  rcases hl1 with h | h
  · obtain ⟨a, b, rfl⟩ := two_is h
    have e : a = c := e
    have := hl2 a (.head _)
    rcases hl with ⟨-, -, rfl⟩ | ⟨i, -, hc⟩
    · rw [e]; rfl
    · lia
  · have ht := hG.2.1 w hw h
    obtain ⟨a, b, d, rfl⟩ := three_is h
    have e : 20 + ((W.idxOf [a, b] : Nat) : Int) = c := e
    rcases hl with ⟨h1, h2, -⟩ | ⟨i, hi, hc⟩
    · lia
    · obtain ⟨j, hj⟩ := List.mem_iff_getElem?.mp ht
      have hj : W[j]? = some [a, b] := hj
      have := idxOf_get hG.2.2 hj
      have : j = i := by lia
      subst this
      rw [hi] at hj
      cases hj
      rfl
theorem left_code (hG : GoodW L W) {c y : Int} {np : List Int} (hl : LeftOk L W c np) (hw : np ++ [y] ∈ W) : leftCode W (np ++ [y]) = c := by
  rcases hl with ⟨-, -, rfl⟩ | ⟨i, hi, rfl⟩
  · rfl
  · have h1 := (hG.1 np (List.mem_of_getElem? hi)).1
    have h2 := (hG.1 _ hw).1
    have : np.length = 2 := by
      rw [List.length_append, List.length_singleton] at h2
      lia
    obtain ⟨a, b, rfl⟩ := two_is this
    show 20 + ((W.idxOf [a, b] : Nat) : Int) = _
    rw [idxOf_get hG.2.2 hi]
theorem rows_lig (hL2 : L ≤ 4) (hG : GoodW L W) (hGK : GoodK L W Kn) {c y : Int} {np : List Int} (hl : LeftOk L W c np) {r : Row3} (hr : r ∈ rowsOf W Kn tu c) (hy : r.1 = y) : (∃ j : Nat, W[j]? = some (np ++ [y]) ∧ r = (y, 0, 20 + (j : Int))) ∨ (np ++ [y] ∉ W ∧ ∃ k, kget Kn [c, y] = some k ∧ r = (y, 128, k)) := by
  have : r ∈ ligN W c W.length ++ kerN Kn c Kn.length := by
    unfold rowsOf at hr
    split at hr
    · exact List.mem_reverse.mp hr
    · exact hr
  rcases List.mem_append.mp this with h | h
  · obtain ⟨j, w, -, hj, e1, rfl⟩ := (ligN_mem (Nat.le_refl _)).mp h
    have := left_of hL2 hG hl (List.mem_of_getElem? hj) e1
    have hy : w.getLastD 0 = y := hy
    rw [hy] at this ⊢
    exact .inl ⟨j, this ▸ hj, rfl⟩
  · obtain ⟨j, ⟨pk, pv⟩, -, hj, e1, rfl⟩ := (kerN_mem (Nat.le_refl _)).mp h
    have hm := List.mem_of_getElem? hj
    obtain ⟨⟨c', l, ws, e, l1, l2, hws, hnw⟩, -⟩ := hGK.1 _ hm
    have e : pk = [c', l] := e
    subst e
    have e1 : c' = c := e1
    have hy : l = y := hy
    subst e1 hy
    have : ws = np := by
      rcases hws with ⟨a, b, rfl⟩ | ⟨i, a, b⟩
      · rcases hl with ⟨-, -, rfl⟩ | ⟨i2, -, b2⟩
        · rfl
        · lia
      · rcases hl with ⟨-, b2, -⟩ | ⟨i2, a2, b2⟩
        · lia
        · have : i = i2 := by lia
          subst this
          rw [a] at a2
          exact Option.some.inj a2
    subst this
    exact .inr ⟨hnw, pv, kget_nd hGK.2 hm, rfl⟩
theorem rows_find (hL2 : L ≤ 4) (hG : GoodW L W) (hGK : GoodK L W Kn) {c y : Int} {np : List Int} (hl : LeftOk L W c np) : match (rowsOf W Kn tu c).find? (fun r => decide (r.1 = y)) with
    | none => np ++ [y] ∉ W ∧ kget Kn [c, y] = none
    | some r => (∃ j : Nat, W[j]? = some (np ++ [y]) ∧ r = (y, 0, 20 + (j : Int))) ∨ (np ++ [y] ∉ W ∧ ∃ k, kget Kn [c, y] = some k ∧ r = (y, 128, k)) := by
  have hin : ∀ r, r ∈ ligN W c W.length ++ kerN Kn c Kn.length → r ∈ rowsOf W Kn tu c := fun r h => by
    unfold rowsOf
    split
    · exact List.mem_reverse.mpr h
    · exact h
  cases h : (rowsOf W Kn tu c).find? (fun r => decide (r.1 = y)) with
  | some r => exact rows_lig hL2 hG hGK hl (List.mem_of_find?_eq_some h) (by simpa using List.find?_some h)
  | none =>
    have h := List.find?_eq_none.mp h
    dsimp only
    constructor
    · intro hw
      obtain ⟨j, hj⟩ := List.mem_iff_getElem?.mp hw
      have := h _ (hin _ (List.mem_append_left _ ((ligN_mem (Nat.le_refl _)).mpr ⟨j, _, (List.getElem?_eq_some_iff.mp hj).1, hj, left_code hG hl hw, rfl⟩)))
      simp at this
    · cases hk : kget Kn [c, y] with
      | none => rfl
      | some k =>
        obtain ⟨j, hj⟩ := List.mem_iff_getElem?.mp (mem_kget hk)
        have := h _ (hin _ (List.mem_append_right _ ((kerN_mem (Nat.le_refl _)).mpr ⟨j, _, (List.getElem?_eq_some_iff.mp hj).1, hj, rfl, rfl⟩)))
        simp at this
theorem best_is {suf : List Int} {x c : Int} {l : Nat} (hn : W.Nodup) (hm : ∀ w ∈ W, suf.take w.length = w → w.length ≤ l) (hl : (l = 1 ∧ c = x) ∨ (2 ≤ l ∧ ∃ i : Nat, W[i]? = some (suf.take l) ∧ (suf.take l).length = l ∧ c = 20 + (i : Int))) : bestN suf W x W.length = (c, l) := by
  have key : ∀ n, n ≤ W.length → (bestN suf W x n).2 ≤ l ∧ ((bestN suf W x n).2 = l → bestN suf W x n = (c, l)) ∧ (∀ i : Nat, i < n → W[i]? = some (suf.take l) → (suf.take l).length = l → (bestN suf W x n).2 = l) := by
    intro n
    induction n with
    | zero =>
      intro _
      refine ⟨?_, fun h => ?_, fun i h => absurd h (Nat.not_lt_zero _)⟩
      · show 1 ≤ l
        rcases hl with h | h <;> lia
      · have h : 1 = l := h
        rcases hl with ⟨h1, h2⟩ | ⟨h1, -⟩
        · rw [h1, h2]; rfl
        · lia
    | succ n ih =>
      intro hle
      obtain ⟨i1, i2, i3⟩ := ih (by lia)
      obtain ⟨w, hw⟩ : ∃ w, W[n]? = some w := ⟨_, List.getElem?_eq_getElem (by lia)⟩
      rw [bestN, hw]
      dsimp only
      split
      · rename_i h
        have hwl := hm w (List.mem_of_getElem? hw) h.2
        refine ⟨hwl, fun e => ?_, fun i hi he hel => ?_⟩
        · have e : w.length = l := e
          rcases hl with ⟨h1, -⟩ | ⟨h1, i, h2, h3, h4⟩
          · have := bestN_pos suf W x n
            lia
          · have h5 : W[n]? = some (suf.take l) := by rw [hw, ← e, h.2]
            have : n = i := by rw [← idxOf_get hn h5, ← idxOf_get hn h2]
            rw [h4, e, this]
        · by_cases q : i = n
          · subst q
            rw [hw] at he
            have := Option.some.inj he
            show w.length = l
            rw [this]; exact hel
          · have := i3 i (by lia) he hel
            lia
      · rename_i h
        refine ⟨i1, i2, fun i hi he hel => ?_⟩
        by_cases q : i = n
        · subst q
          rw [hw] at he
          have he := Option.some.inj he
          subst he
          rcases Nat.lt_or_ge (bestN suf W x i).2 l with h1 | h1
          · exact absurd ⟨by rw [hel]; exact h1, by rw [hel]⟩ h
          · lia
        · exact i3 i (by lia) he hel
  obtain ⟨k1, k2, k3⟩ := key W.length (Nat.le_refl _)
  rcases hl with ⟨h1, h2⟩ | ⟨h1, i, h2, h3, h4⟩
  · have := bestN_pos suf W x W.length
    exact k2 (by lia)
  · exact k2 (k3 i (List.getElem?_eq_some_iff.mp h2).1 h2 h3)
theorem left_len (hG : GoodW L W) {c : Int} {np : List Int} (hl : LeftOk L W c np) : (np.length = 1 ∧ np = [c]) ∨ ((np.length = 2 ∨ np.length = 3) ∧ ∃ i : Nat, W[i]? = some np ∧ c = 20 + (i : Int)) := by
  rcases hl with ⟨-, -, rfl⟩ | ⟨i, hi, e⟩
  · exact .inl ⟨rfl, rfl⟩
  · exact .inr ⟨(hG.1 np (List.mem_of_getElem? hi)).1, i, hi, e⟩
theorem take_one (np : List Int) (y : Int) (r : List Int) : (np ++ y :: r).take (np.length + 1) = np ++ [y] := by
  rw [show np ++ y :: r = (np ++ [y]) ++ r by simp, show np.length + 1 = (np ++ [y]).length by simp, List.take_left]
theorem best_left (hG : GoodW L W) {c : Int} {np rest : List Int} (hl : LeftOk L W c np) (hno : ∀ y r, rest = y :: r → np ++ [y] ∉ W) : bestN (np ++ rest) W ((np ++ rest).headD 0) W.length = (c, np.length) := by
  have hlen := left_len hG hl
  refine best_is hG.2.2 (fun w hw e => ?_) ?_
  · rcases Nat.lt_or_ge np.length w.length with h | h
    · exfalso
      cases rest with
      | nil =>
        have := congrArg List.length e
        rw [List.length_take, List.append_nil] at this
        lia
      | cons y r =>
        have hno := hno y r rfl
        have hw2 := (hG.1 w hw).1
        by_cases q : w.length = np.length + 1
        · apply hno
          have : (np ++ y :: r).take w.length = np ++ [y] := q ▸ take_one np y r
          rw [← this, e]; exact hw
        · have hn1 : 1 ≤ np.length := by
            rcases hlen with ⟨h, -⟩ | ⟨h, -⟩
            · exact Nat.le_of_eq h.symm
            · rcases h with h | h <;> rw [h] <;> decide
          have h3 : w.length = 3 ∧ np.length = 1 := by clear hlen; lia
          have := hG.2.1 w hw h3.1
          rw [← e, h3.1, List.take_take] at this
          apply hno
          have h2 : (np ++ y :: r).take (min 2 3) = np ++ [y] := by rw [show min 2 3 = np.length + 1 by rw [h3.2]; rfl]; exact take_one np y r
          rw [← h2]; exact this
    · exact h
  · rcases hlen with ⟨h1, h2⟩ | ⟨h1, i, h2, h3⟩
    · exact .inl ⟨h1, by rw [h2]; rfl⟩
    · have : (np ++ rest).take np.length = np := by simp
      exact .inr ⟨by lia, i, by rw [this]; exact h2, by rw [this], h3⟩
theorem fm_left (hL : 0 ≤ L) {c : Int} {np : List Int} (hl : LeftOk L W c np) : (fmOf L W Kn tu c).getD [] = rowsOf W Kn tu c := by
  unfold fmOf
  rw [if_pos ((codes_mem hL).mpr ?_)]
  · rfl
  · rcases hl with ⟨h1, h2, -⟩ | ⟨i, h1, h2⟩
    · exact .inl ⟨h1, h2⟩
    · have := (List.getElem?_eq_some_iff.mp h1).1
      exact .inr (by lia)
theorem wnode_due (hL : 2 ≤ L) (hL2 : L ≤ 4) (hG : GoodW L W) (hGK : GoodK L W Kn) : ∀ (rest : List Int) (c : Int) (np : List Int), (∀ x ∈ rest, 1 ≤ x ∧ x ≤ L) → LeftOk L W c np → wnode (fmOf L W Kn tu) c np (decide (np.length ≠ 1)) rest = due W Kn (np ++ rest)
  | rest, c, np, ht, hl => by
    have hlen := left_len hG hl
    have hcut : (∀ y r, rest = y :: r → np ++ [y] ∉ W) → due W Kn (np ++ rest) = nodeOf c np (decide (np.length ≠ 1)) :: (krnOf Kn c rest ++ due W Kn rest) := fun hno => by
      have hb := best_left hG hl hno
      obtain ⟨a, q, hq⟩ : ∃ a q, np = a :: q := by
        cases np with
        | nil => simp at hlen
        | cons a q => exact ⟨a, q, rfl⟩
      have hd : q ++ rest = (q ++ rest) := rfl
      rw [hq] at hb ⊢
      have hb : bestN (a :: (q ++ rest)) W a W.length = (c, q.length + 1) := hb
      rw [List.cons_append, due, hb]
      dsimp only
      rw [show q.length + 1 - 1 = q.length from rfl, List.drop_left]
      congr 1
      unfold partOf nodeOf
      dsimp only
      by_cases e : q.length = 0
      · rw [if_pos (by lia), if_neg (by simp [e])]
      · rw [if_neg (by lia), if_pos (by simp [e])]
        congr 1
        rw [show a :: (q ++ rest) = (a :: q) ++ rest from rfl, show q.length + 1 = (a :: q).length from rfl, List.take_left]
    match rest, ht, hcut with
    | [], _, hcut =>
      rw [hcut (fun y r h => by cases h), wnode, due]
      rfl
    | y :: rest, ht, hcut =>
      have ht2 : ∀ x ∈ rest, 1 ≤ x ∧ x ≤ L := fun x h => ht x (.tail _ h)
      have hly : LeftOk L W y [y] := .inl ⟨(ht y (.head _)).1, (ht y (.head _)).2, rfl⟩
      have ihy := wnode_due hL hL2 hG hGK rest y [y] ht2 hly
      have ihy : wnode (fmOf L W Kn tu) y [y] false rest = due W Kn (y :: rest) := ihy
      have hf := rows_find (tu := tu) (y := y) hL2 hG hGK hl
      rw [wnode, fm_left (by lia) hl]
      cases hq : (rowsOf W Kn tu c).find? (fun r => decide (r.1 = y)) with
      | none =>
        rw [hq] at hf
        dsimp only at hf ⊢
        rw [hcut (fun y' r e => by cases e; exact hf.1), ihy, krnOf, hf.2]
        rfl
      | some r =>
        rw [hq] at hf
        rcases hf with ⟨j, hj, rfl⟩ | ⟨hno, k, hk, rfl⟩
        · have hl2 : LeftOk L W (20 + (j : Int)) (np ++ [y]) := .inr ⟨j, hj, rfl⟩
          have := wnode_due hL hL2 hG hGK rest _ (np ++ [y]) ht2 hl2
          have hd : decide ((np ++ [y]).length ≠ 1) = true := by
            rw [List.length_append, List.length_singleton]
            exact decide_eq_true (by lia)
          rw [hd, List.append_assoc] at this
          exact this
        · dsimp only
          rw [if_neg (by decide), hcut (fun y' r e => by cases e; exact hno), ihy, krnOf, hk]
          rfl
termination_by rest => rest.length
theorem plain_fmok (hL : 2 ≤ L) (hL2 : L ≤ 4) (hG : GoodW L W) (hWl : W.length ≤ 10) (hGK : GoodK L W Kn) : FmOk (fmOf L W Kn tu) := by
  intro c R h
  unfold fmOf at h
  split at h
  · rename_i hc
    have hc := (codes_mem (by lia)).mp hc
    cases h
    refine ⟨by lia, by lia, fun r hr => ?_⟩
    obtain ⟨g1, g2, g3⟩ := rowsOf_good hG hGK hr
    rcases g3 with ⟨g3, i, hi, g4⟩ | ⟨g3, g4⟩
    · refine ⟨⟨by lia, .inl g3⟩, fun _ => ?_⟩
      unfold fmOf
      rw [if_pos ((codes_mem (by lia)).mpr (.inr (by lia)))]; rfl
    · exact ⟨⟨by lia, .inr ⟨g3, g4⟩⟩, fun q => by rw [g3] at q; cases q⟩
  · cases h
theorem plain_due (hL : 2 ≤ L) (hL2 : L ≤ 4) (hG : GoodW L W) (hWl : W.length ≤ 10) (hGK : GoodK L W Kn) {text : List Int} (ht : ∀ x ∈ text, 1 ≤ x ∧ x ≤ L) : wnodes (fmOf L W Kn tu) text = due W Kn text := by
  cases text with
  | nil => rw [due]; rfl
  | cons x rest => exact wnode_due hL hL2 hG hGK rest x [x] (fun y h => ht y (.tail _ h)) (.inl ⟨(ht x (.head _)).1, (ht x (.head _)).2, rfl⟩)
theorem plain_some (hL : 2 ≤ L) {x : Int} (h : 1 ≤ x ∧ x ≤ L) : (fmOf L W Kn tu x).isSome := by
  unfold fmOf
  rw [if_pos ((codes_mem (by lia)).mpr (.inl h))]; rfl
end
theorem plain_one (fm : Int → Option (List Row3)) (x : Int) : wnodes fm [x] = [.chr x] := by
  unfold wnodes wnode; rfl

inductive L2Inv (s wd kd k0 : Addr) (cw ck cF cO : List Ent) (fo : Addr) (o2 o3 : Obj) (i : Nat) (ls : Locs) (led : Led) : Prop
  | mk (y1 y2 y3 : Option Value) (o1 : Obj) (ov : Option Value) (e1 : ls = [((Str.ofString "script"), some (.ref s)), ((Str.ofString "words"), some (.ref wd)), ((Str.ofString "kerns"), some (.ref kd)), ((Str.ofString "other"), some (.ref fo)), ((Str.ofString "k"), y1), ((Str.ofString "text"), y2), ((Str.ofString "due"), y3)])
    (e2 : led = [[(k0 + 2, o3)], [(k0 + 1, o2)], [(k0, o1)], cO, cF, ck, cw]) (ho1 : o1.data = .cell ov) : L2Inv s wd kd k0 cw ck cF cO fo o2 o3 i ls led
theorem L2Inv.el {s wd kd k0 : Addr} {cw ck cF cO : List Ent} {fo : Addr} {o2 o3 : Obj} {i : Nat} {ls : Locs} {led : Led} {G : Locs → Led → Prop} (h9 : L2Inv s wd kd k0 cw ck cF cO fo o2 o3 i ls led) (k9 : ∀ (y1 y2 y3 : Option Value) (o1 : Obj) (ov : Option Value) (ho1 : o1.data = .cell ov), G ([((Str.ofString "script"), some (.ref s)), ((Str.ofString "words"), some (.ref wd)), ((Str.ofString "kerns"), some (.ref kd)), ((Str.ofString "other"), some (.ref fo)), ((Str.ofString "k"), y1), ((Str.ofString "text"), y2), ((Str.ofString "due"), y3)]) ([[(k0 + 2, o3)], [(k0 + 1, o2)], [(k0, o1)], cO, cF, ck, cw])) : G ls led := by
  obtain ⟨y1, y2, y3, o1, ov, rfl, rfl, ho1⟩ := h9
  exact k9 y1 y2 y3 o1 ov ho1
inductive TxInv (b k0 : Addr) (L : Int) (ck cw cF cO : List Ent) (o1 o2 o3 : Obj) (j : Nat) (ys : List Value) (led : Led) : Prop
  | mk (tx : List Int) (cb : List Ent) (e : led = [cb, [(k0 + 2, o3)], [(k0 + 1, o2)], [(k0, o1)], cO, cF, ck, cw]) (hi : IntsAre ys tx) (hx : ∀ x ∈ tx, 1 ≤ x ∧ x ≤ L) (hn : tx.length = j) (hj : j ≤ 9) (hB : Bag b (1 + j) cb) : TxInv b k0 L ck cw cF cO o1 o2 o3 j ys led
theorem TxInv.el {b k0 : Addr} {L : Int} {ck cw cF cO : List Ent} {o1 o2 o3 : Obj} {j : Nat} {ys : List Value} {led : Led} {G : Led → Prop} (h9 : TxInv b k0 L ck cw cF cO o1 o2 o3 j ys led) (k9 : ∀ (tx : List Int) (cb : List Ent) (hi : IntsAre ys tx) (hx : ∀ x ∈ tx, 1 ≤ x ∧ x ≤ L) (hn : tx.length = j) (hj : j ≤ 9) (hB : Bag b (1 + j) cb), G ([cb, [(k0 + 2, o3)], [(k0 + 1, o2)], [(k0, o1)], cO, cF, ck, cw])) : G led := by
  obtain ⟨tx, cb, rfl, hi, hx, hn, hj, hB⟩ := h9
  exact k9 tx cb hi hx hn hj hB
inductive R2Inv (tx : List Int) (Z : Led) (i : Nat) (ys : List Value) (led : Led) : Prop
  | mk (ts : List Ent) (e : led = ts :: Z) (h : Rds [ts] ys ((tx.take i).map fun q => nodeD (.chr q))) (hl : ys.length = i) (hle : i ≤ tx.length) : R2Inv tx Z i ys led
theorem R2Inv.el {tx : List Int} {Z : Led} {i : Nat} {ys : List Value} {led : Led} {G : Led → Prop} (h9 : R2Inv tx Z i ys led) (k9 : ∀ (ts : List Ent) (h : Rds [ts] ys ((tx.take i).map fun q => nodeD (.chr q))) (hl : ys.length = i) (hle : i ≤ tx.length), G (ts :: Z)) : G led := by
  obtain ⟨ts, rfl, h, hl, hle⟩ := h9
  exact k9 ts h hl hle
theorem R2Inv.next {tx : List Int} {Z : Led} {i : Nat} {ys : List Value} {ts : List Ent} {q : Int} {v : Value} {tc : List Ent} (h : Rds [ts] ys ((tx.take i).map fun q => nodeD (.chr q))) (hl : ys.length = i) (hle : i ≤ tx.length) (hq : tx[i]? = some q) (h2 : Rds [tc] [v] [nodeD (.chr q)]) :
    R2Inv tx Z (i + 1) (ys ++ [v]) ((tc ++ ts) :: Z) := by
  refine ⟨_, rfl, ?_, by simp [hl], ?_⟩
  · rw [List.take_add_one, hq, List.map_append]
    exact (h.mono fun x hx => by simp at hx ⊢; exact .inr hx).app (h2.mono fun x hx => by simp at hx ⊢; exact .inl hx)
  · rcases Nat.lt_or_ge i tx.length with h | h
    · exact h
    · rw [List.getElem?_eq_none h] at hq; cases hq
theorem w_chrNe {Γ : Fm} {gl : List (Str × Value)} {cl : List (Str × Addr)} {ls : Locs} {led : Led} {d1 d2 : Addr} {v1 v2 : List Value} {n1 n2 : Nat} {nds : List Node} {Q : Value → Locs → Led → Prop} (h1 : At d1 (listOf v1.toArray n1) led) (h2 : At d2 (listOf v2.toArray n2) led) (a1 : Rds led v1 (nds.map nodeD)) (a2 : Rds led v2 (nds.map nodeD)) (h : Q (.bool false) ls led) :
    WP Γ gl cl ls led (compareOp .NotEq (.ref d1) (.ref d2)) Q := by
  refine w_neD (.list h1 a1) (.list h2 a2) (lay_nodes _) (lay_nodes _) ?_ ?_
  · have : (PyData.list (nds.map nodeD)).depth = 1 + PyData.depthAll (nds.map nodeD) ∨ (PyData.list (nds.map nodeD)).depth = PyData.depthAll (nds.map nodeD) + 1 := by first | exact .inl rfl | exact .inr rfl
    have := dep_nodes nds
    lia
  · rw [show PyData.eqv (.list (nds.map nodeD)) (.list (nds.map nodeD)) = true from eqv_nodes nds]
    exact h
theorem w_toldNe {Γ : Fm} {gl : List (Str × Value)} {cl : List (Str × Addr)} {ls : Locs} {led r1 r2 : Led} {d1 d2 : Addr} {c1 c2 : List Ent} {nds : List Node} {Q : Value → Locs → Led → Prop} (h1 : ToldC d1 nds c1) (h2 : ToldC d2 nds c2) (p1 : Pick led c1 r1) (p2 : Pick led c2 r2) (h : Q (.bool false) ls led) :
    WP Γ gl cl ls led (compareOp .NotEq (.ref d1) (.ref d2)) Q := by
  obtain ⟨v1, n1, t1, rfl, a1, -⟩ := h1
  obtain ⟨v2, n2, t2, rfl, a2, -⟩ := h2
  have m1 : ∀ x ∈ (d1, listOf (List.toArray v1) n1) :: t1, x ∈ led.flatten := fun x hx => p1.perm.flatten.mem_iff.mpr (List.mem_append_left _ hx)
  have m2 : ∀ x ∈ (d2, listOf (List.toArray v2) n2) :: t2, x ∈ led.flatten := fun x hx => p2.perm.flatten.mem_iff.mpr (List.mem_append_left _ hx)
  exact w_chrNe (.of_mem (m1 _ (.head _))) (.of_mem (m2 _ (.head _))) (a1.mono fun x hx => m1 _ (List.mem_cons_of_mem _ (by simpa using hx))) (a2.mono fun x hx => m2 _ (List.mem_cons_of_mem _ (by simpa using hx))) h
theorem cell_specS {s : Addr} {vs : List Value} {ns : List Int} {k : Nat} {t : Tok} (hv : IntsAre vs ns) (hk : k < 2 ∨ k < ns.length) (hz : vs.length ≤ 1000) :
    FnS s vs 1 411 [.ref s, .int k t] [] fun r fp => ∃ i u, r = .int i u ∧ 0 ≤ i ∧ fp = [] := by
  have hz2 := hv.length
  refine fn_introS (binds := [((Str.ofString "script"), .ref s), ((Str.ofString "k"), .int k t)]) (gl' := [((Str.ofString "abs"), .builtin "abs"), ((Str.ofString "len"), .builtin "len"), ((Str.ofString "_law_chosen"), .ref 404)])
    (ls0 := [((Str.ofString "script"), some (.ref s)), ((Str.ofString "k"), some (.int k t))]) (H := ?_)
  intro Γ K hr hc hK hN hS
  refine w_execs_cons <| w_Return <| w_IfExp <| w_tCompare1 <| w_loc rfl <| w_CallName <| w_glob rfl <| w_callB <| w_items_cons <| w_loc rfl <| w_items_nil ?_
  refine w_lenS hS (by kdl_here) ?_
  intro t1
  refine w_lt <| w_truthyB ?_
  refine ite_D (fun h1 => ?_) (fun h1 => ?_)
  · have hk2 : k < ns.length := by lia
    obtain ⟨u, e⟩ := ints_get hv hk2
    refine w_CallName <| w_glob rfl <| w_callB <| w_items_cons <| w_Subscript <| w_loc rfl <| w_loc rfl ?_
    refine w_subS hS (by kdl_here) (by kdl_here) (by simpa using e) ?_ (by with_unfolding_all rfl)
    refine w_items_nil <| w_abs fun _ => seq_ret ?_
    refine hK _ _ _ <| done_ (by kpf_close) ⟨_, _, rfl, ?_, rfl⟩
    split <;> lia
  · have hk2 : k = 0 ∨ k = 1 := by lia
    rcases hk2 with rfl | rfl
    · refine w_Subscript <| w_glob rfl <| w_loc rfl <| w_subTK (by kd_p) (by decide) (by decide) (by exact rfl) ?_
      refine seq_ret ?_
      exact hK _ _ _ <| done_ (by kpf_close) ⟨_, _, rfl, by decide, rfl⟩
    · refine w_Subscript <| w_glob rfl <| w_loc rfl <| w_subTK (by kd_p) (by decide) (by decide) (by exact rfl) ?_
      refine seq_ret ?_
      exact hK _ _ _ <| done_ (by kpf_close) ⟨_, _, rfl, by decide, rfl⟩
theorem via {b b2 : List Stmt} {P : List Stmt → Prop} (h : b = b2) (H : P b2) : P b := h ▸ H
noncomputable abbrev lawD : Stmt := pI pB 55
set_option maxHeartbeats 16000000 in
theorem law_body {Γ : Fm} {K : Flow → Locs → Led → Prop} {s k0 : Addr} {vs : List Value} {ns : List Int} {o1 o2 o3 : Obj} (hv : IntsAre vs ns) (hz : vs.length ≤ 63) (hS : Std s vs Γ.h₀) (hN : 13 ≤ Γ.room + 1) (hc : Γ.comp = none) (hK : ∀ ls led, K (.ret (.bool true)) ls led)
    (ho3 : o3.data = .cell none) (ho2 : o2.data = .cell none) (ho1 : o1.data = .cell none) (kb : Γ.env.kindOf (Str.ofString "bag") = some .cell) (kl : Γ.env.kindOf (Str.ofString "letters") = some .cell) (kf : Γ.env.kindOf (Str.ofString "font") = some .cell) :
    WP Γ [((Str.ofString "_law_bag"), .ref 418), ((Str.ofString "_law_cell"), .ref 411), ((Str.ofString "_law_draw"), .ref 425), ((Str.ofString "_law_words"), .ref 430), ((Str.ofString "_law_kerns"), .ref 435), ((Str.ofString "_law_font"), .ref 440), ((Str.ofString "range"), .type "range"), ((Str.ofString "max"), .builtin "max"), ((Str.ofString "min"), .builtin "min"), ((Str.ofString "len"), .builtin "len"), ((Str.ofString "_law_due"), .ref 447), ((Str.ofString "_law_told"), .ref 454), ((Str.ofString "list"), .type "list")]
      [((Str.ofString "font"), k0 + 2), ((Str.ofString "letters"), k0 + 1), ((Str.ofString "bag"), k0)] [((Str.ofString "script"), some (.ref s)), ((Str.ofString "words"), none), ((Str.ofString "kerns"), none), ((Str.ofString "other"), none), ((Str.ofString "k"), none), ((Str.ofString "text"), none), ((Str.ofString "due"), none)] [[(k0 + 2, o3)], [(k0 + 1, o2)], [(k0, o1)]] (execs (fnB lawD) Γ.env) K := by
  have hz2 := hv.length
  refine' via (P := fun b => WP Γ _ _ _ _ (execs b Γ.env) K) ?hbd ?_
  case hbd => ((conv => lhs; whnf); try exact rfl)
  refine w_execs_cons <| w_Assign <| w_CallName <| w_glob rfl <| w_callK (by kd_p) ?_
  refine w_items_cons <| w_CallName <| w_glob rfl <| w_callK (by kd_p) ?_
  refine w_items_cons <| w_loc rfl <| w_items_cons <| w_int fun _ => w_items_nil ?_
  refine w_fnS2_1 (cell_specS hv (k := 0) (.inl (by decide)) (by kdl_here)) hS (by kdl_here) (by kpf_close) ?_
  intro i0 u0 hi0
  refine w_items_nil ?_
  refine w_fn2_1 (bag_spec hi0) (by kdl_here) (by kpf_close) ?_
  intro b cb hb0
  refine w_storeCell rfl kb (by kcf_m) ho1 (fun o1' ho1' => ⟨_, by kcj_m, ?_⟩)
  clear ho1
  refine seq_next <| w_execs_cons <| w_Assign <| w_BinOp <| w_int fun _ => w_CallName <| w_glob rfl <| w_callK (by kd_p) ?_
  refine w_items_cons <| w_cell (by exact rfl) (by kcf_m) (by assumption) ?_
  refine w_items_cons <| w_int fun _ => w_items_nil ?_
  refine w_fn3_3 (draw_spec hb0 (by kdl_here) (by decide) (by decide)) (by kdl_here) (by kpf_close) ?_
  intro d td cb1 hd0 hd1 hb1
  refine w_add fun _ => ?_
  rename_i tL
  refine w_storeCell rfl kl (by kcf_m) ho2 (fun o2' ho2' => ⟨_, by kcj_m, ?_⟩)
  clear ho2
  have hL : 2 ≤ 2 + d := by lia
  have hL2 : 2 + d ≤ 4 := by lia
  generalize 2 + d = L at *
  refine seq_next <| w_execs_cons <| w_Assign <| w_CallName <| w_glob rfl <| w_callK (by kd_p) ?_
  refine w_items_cons <| w_cell (by exact rfl) (by kcf_m) (by assumption) ?_
  refine w_items_cons <| w_cell (by exact rfl) (by kcf_m) (by assumption) ?_
  refine w_items_nil ?_
  refine w_fn4_4 (words_spec hb1 (by kdl_here) (by kdl_here) (by kdl_here)) (by kdl_here) (by kpf_close) ?_
  intro wd W cw cb2 hG hWl hW hb2
  refine w_store (by assumption) (by kpt_turns) ?_
  refine seq_next <| w_execs_cons <| w_Assign <| w_CallName <| w_glob rfl <| w_callK (by kd_p) ?_
  refine w_items_cons <| w_cell (by exact rfl) (by kcf_m) (by assumption) ?_
  refine w_items_cons <| w_cell (by exact rfl) (by kcf_m) (by assumption) ?_
  refine w_items_cons <| w_loc rfl <| w_items_nil ?_
  refine w_fn4_4 (kerns_spec hb2 (by kdl_here) hL hL2 hW hG hWl) (by kdl_here) (by kpf_close) ?_
  intro kd Kn ck cb3 hGK hKl hKC hb3
  refine w_store (by assumption) (by kpt_turns) ?_
  refine seq_next <| w_execs_cons ?_
  refine w_AssignUn ?_ ?hs ?hw
  case hs => rfl
  case hw =>
    unfold swappedStores
    simp only [kf, List.filterMap]
    generalize (Γ.env.blockKind != ScopeKind.function) = b1
    generalize (Γ.env.kindOf ((Str.ofString "other")) == some NameKind.local) = b2
    cases b1 <;> cases b2 <;> kernel_rfl
  refine w_Tuple <| w_items_cons <| w_CallName <| w_glob rfl <| w_callK (by kd_p) ?_
  refine w_items_cons <| w_cell (by exact rfl) (by kcf_m) (by assumption) ?_
  refine w_items_cons <| w_loc rfl <| w_items_cons <| w_loc rfl <| w_items_cons <| w_bool <| w_items_nil ?_
  refine w_fn8_1 (font_spec hL hL2 hW hG hWl hKC hGK hKl) (by kdl_here) (by kpf_close) ?_
  intro fx dxF dcF tpF ktF pvsF tsF cF hF
  refine w_items_cons <| w_CallName <| w_glob rfl <| w_callK (by kd_p) ?_
  refine w_items_cons <| w_cell (by exact rfl) (by kcf_m) (by assumption) ?_
  refine w_items_cons <| w_loc rfl <| w_items_cons <| w_loc rfl <| w_items_cons <| w_bool <| w_items_nil ?_
  refine w_fn8_1 (font_spec hL hL2 hW hG hWl hKC hGK hKl) (by kdl_here) (by kpf_close) ?_
  intro fo dxO dcO tpO ktO pvsO tsO cO hO
  refine w_items_nil <| w_newTuple (by kdl_here) fun _ => ?_
  refine w_assignTup (by kcf_m) (by exact rfl) (by exact rfl) ?_
  refine w_inOrder_cons rfl <| w_assignName ?_
  refine w_storeCell rfl kf (by kcf_m) ho3 (fun o3' ho3' => ⟨_, by kcj_m, ?_⟩)
  clear ho3
  refine w_inOrder_cons rfl <| w_assignName <| w_store (by assumption) (by kpt_turns) ?_
  refine w_inOrder_nil <| seq_next <| w_execs_cons ?_
  refine w_for4 ?_
  refine w_CallName <| w_glob rfl <| w_callT <| w_items_cons <| w_int fun _ => w_items_cons <| w_CallName <| w_glob rfl <| w_callB <| w_items_cons <| w_int fun _ => w_items_cons <| w_CallName <| w_glob rfl <| w_callB <| w_items_cons <| w_int fun _ => w_items_cons <| w_CallName <| w_glob rfl <| w_callB <| w_items_cons <| w_loc rfl <| w_items_nil ?_
  refine w_lenS hS (by kdl_here) ?_
  intro t1
  refine w_items_nil <| w_min fun _ => w_items_nil <| w_max fun _ => w_items_nil <| w_range2 fun _ _ => ?_
  rename_i rr rb
  obtain ⟨B, eB⟩ : ∃ B : Int, (if (if (vs.length : Int) < 4 then (vs.length : Int) else 4) > 2 then if (vs.length : Int) < 4 then (vs.length : Int) else 4 else 2) = B := ⟨_, rfl⟩
  have hB : 2 ≤ B ∧ B ≤ 4 ∧ (B = 2 ∨ B ≤ vs.length) := by rw [← eB]; split <;> split <;> lia
  rw [eB]
  clear eB
  refine ⟨(B - 1).toNat, _, fun _ => True, L2Inv s wd kd k0 cw ck cF cO fo o2' o3', _, IterOf.three (iter_range (.head (.head _)) (small_one (by decide) (by decide) (by kdl_here) (by kdl_here)) (by rw [rangeSize_one]; split <;> lia)) (by intro _ _; rfl),
    drop_ (l := [[(k0 + 2, o3')], [(k0 + 1, o2')], [(k0, o1')], cO, cF, ck, cw]) (by kpf_close) rfl ⟨_, _, _, _, _, rfl, rfl, ho1'⟩, fun _ _ _ _ => trivial, ?_, ?_⟩
  · rintro i v own ls led K1 hi hP9 hI9
    apply rngN_el hP9; intro t
    apply hI9.el; intro y1 y2 y3 o1 ov ho1
    rintro hK1 hR1
    have hk2 : 1 + i < 2 ∨ 1 + i < ns.length := by lia
    rw [show (1 : Int) + (i : Int) = ((1 + i : Nat) : Int) by push_cast; rfl]
    clear hi hB ho1' hb3
    refine w_assignName <| w_store (by assumption) (by kpt_turns) ?_
    refine w_execs_cons <| w_Assign <| w_CallName <| w_glob rfl <| w_callK (by kd_p) ?_
    refine w_items_cons <| w_CallName <| w_glob rfl <| w_callK (by kd_p) ?_
    refine w_items_cons <| w_loc rfl <| w_items_cons <| w_loc rfl <| w_items_nil ?_
    refine w_fnS2_1 (cell_specS hv hk2 (by kdl_here)) hS (by kdl_here) (by kpf_close) ?_
    intro i0 u0 hi0
    refine w_items_nil ?_
    refine w_fn2_1 (bag_spec hi0) (by kdl_here) (by kpf_close) ?_
    intro b cb hb0
    refine w_storeCell rfl kb (by kcf_m) ho1 (fun o1' ho1' => ⟨_, by kcj_m, ?_⟩)
    clear ho1
    refine seq_next <| w_execs_cons ?_
    refine w_AssignComp hc (gl' := [((Str.ofString "_law_draw"), .ref 425)]) (cl' := [((Str.ofString "letters"), k0 + 1), ((Str.ofString "bag"), k0)]) (oy := y2) (CompOk.of rfl rfl rfl rfl rfl rfl (by intro p9; kqd_in)) rfl ?_ (by
      intro env h1 h2
      unfold swapsWith
      simp only [h1, h2]
      kernel_rfl) (by intro _; rfl)
    refine w_CallName <| w_glob rfl <| w_callT <| w_items_cons <| w_CallName <| w_glob rfl <| w_callK (by kd_p) ?_
    refine w_items_cons <| w_cell (by exact rfl) (by kcf_m) (by assumption) ?_
    refine w_items_cons <| w_int fun _ => w_items_nil ?_
    refine w_fn3_3 (draw_spec hb0 (by kdl_here) (by decide) (by decide)) (by kdl_here) (by kpf_close) ?_
    intro d2 td2 c2 hd20 hd21 hb2
    refine w_items_nil <| w_range1 fun _ _ _ => ?_
    refine ⟨d2.toNat, _, fun _ => True, TxInv b k0 L ck cw cF cO o1' o2' o3', iter_range (.head (.head _)) (small_one (by decide) (by decide) (by kdl_here) (by kdl_here)) (by rw [rangeSize_one]; split <;> lia),
      drop_ (l := [c2, [(k0 + 2, o3')], [(k0 + 1, o2')], [(k0, o1')], cO, cF, ck, cw]) (by kpf_close) rfl ⟨[], c2, rfl, .nil, (by intro x h; cases h), rfl, by decide, hb2⟩, ?_, ?_, ?_⟩
    · rintro j ys led hI9
      apply hI9.el; intro tx cb' hi3 hx3 hn3 hj3 hB3
      have := hi3.length
      exact ⟨trivial, by lia⟩
    · rintro Γc j v ys led K2 hrc ⟨mc, hcc⟩ hj ⟨t3, rfl⟩ hI9
      apply hI9.el; intro tx cb' hi3 hx3 hn3 hj3 hB3
      rintro hK2
      refine w_BinOp <| w_int fun _ => w_CallName <| w_glob rfl <| w_callK (by kd_p) ?_
      refine w_items_cons <| w_cell (by exact rfl) (by kcf_m) (by assumption) ?_
      refine w_items_cons <| w_cell (by exact rfl) (by kcf_m) (by assumption) ?_
      refine w_items_nil ?_
      refine w_fn3_3 (draw_spec hB3 (by kdl_here) (by kdl_here) (by kdl_here)) (by kdl_here) (by kpf_close) ?_
      intro d3 td3 c3 hd30 hd31 hb3
      refine w_add fun _ => ?_
      refine hK2 _ _ _ <| drop_ (l := [c3, [(k0 + 2, o3')], [(k0 + 1, o2')], [(k0, o1')], cO, cF, ck, cw]) (by kpf_close) rfl ⟨tx ++ [1 + d3], c3, rfl, hi3.append (.cons _ _ .nil), fun x hx => ?_, by simp [hn3], by lia, hb3.mono (by push_cast; lia)⟩
      rcases List.mem_append.mp hx with hx | hx
      · exact hx3 x hx
      · rw [List.mem_singleton.mp hx]; lia
    · rintro D cnt tvs led' hI9
      apply hI9.el; intro tx cb' hi3 hx3 hn3 hj3 _
      clear hb2 hb0
      have hzt := hi3.length
      refine w_store (by assumption) (by kpt_turns) ?_
      refine seq_next <| w_execs_cons <| w_Assign <| w_CallName <| w_glob rfl <| w_callK (by kd_p) ?_
      refine w_items_cons <| w_loc rfl <| w_items_cons <| w_loc rfl <| w_items_cons <| w_loc rfl <| w_items_nil ?_
      refine w_fn2_1 (due_spec hW hKC hi3 (by kdl_here) (fun w h => by rcases (hG.1 w h).1 with e | e <;> lia) (fun p h => (hGK.1 p h).2) (by kdl_here)) (by kdl_here) (by kpf_close) ?_
      intro dd cd hdd
      refine w_store (by assumption) (by kpt_turns) ?_
      refine seq_next <| w_execs_cons <| w_If <| w_tBoolOp <| w_allOr <| w_tCompare1 <| w_CallName <| w_glob rfl <| w_callK (by kd_p) ?_
      refine w_items_cons <| w_cell (by exact rfl) (by kcf_m) (by assumption) ?_
      refine w_items_cons <| w_CallName <| w_glob rfl <| w_callT <| w_items_cons <| w_loc rfl <| w_items_nil <| w_listL (by kcf_m) (by kdl_here) fun _ _ => ?_
      refine w_items_nil ?_
      have hok : ∀ tu, FmOk (fmOf L W Kn tu) := fun tu => plain_fmok hL hL2 hG hWl hGK
      have hsm : ∀ tu, ∀ i ∈ tx, (fmOf L W Kn tu i).isSome := fun tu i h => plain_some hL (hx3 i h)
      rename_i ac an
      refine w_fn2_1 (told_spec hF (hok _) hi3 (hsm _) (by kdl_here)) (by kdl_here) (by kpf_close) ?_
      intro d5 c5 hd5
      rw [plain_due hL hL2 hG hWl hGK hx3] at hd5
      refine w_loc rfl ?_
      refine w_toldNe hd5 hdd (by kpc_turns) (by kpc_turns) ?_
      refine w_truthyB <| ite_F <| w_allOr <| w_tCompare1 <| w_CallName <| w_glob rfl <| w_callK (by kd_p) ?_
      refine w_items_cons <| w_loc rfl <| w_items_cons <| w_CallName <| w_glob rfl <| w_callT <| w_items_cons <| w_loc rfl <| w_items_nil <| w_listL (by kcf_m) (by kdl_here) fun _ _ => ?_
      refine w_items_nil ?_
      rename_i ac2 an2
      refine w_fn2_1 (told_spec hO (hok _) hi3 (hsm _) (by kdl_here)) (by kdl_here) (by kpf_close) ?_
      intro d6 c6 hd6
      rw [plain_due hL hL2 hG hWl hGK hx3] at hd6
      refine w_loc rfl ?_
      refine w_toldNe hd6 hdd (by kpc_turns) (by kpc_turns) ?_
      refine w_truthyB <| ite_F <| w_allOrNil <| ite_F <| w_execs_nil <| seq_next <| w_execs_cons <| w_If <| w_tCompare1 ?_
      clear hd5 hd6 hdd
      refine w_ListComp2 hc (gl' := [((Str.ofString "_law_told"), .ref 454)]) (cl' := [((Str.ofString "font"), k0 + 2)]) (CompOk.of rfl rfl rfl rfl rfl rfl (by intro p9; kqd_in)) rfl rfl rfl ?_ (by intro _; rfl) (by intro _ _; rfl)
      refine w_loc rfl ?_
      refine ⟨tvs.length, _, _, R2Inv tx [cF, [(D, listOf tvs.toArray cnt)], [(k0 + 2, o3')], [(k0 + 1, o2')], [(k0, o1')], cO, ck, cw], iter_list (by kcf_m),
        drop_ (l := [cF, [(D, listOf tvs.toArray cnt)], [(k0 + 2, o3')], [(k0 + 1, o2')], [(k0, o1')], cO, ck, cw]) (l2 := [[], cF, [(D, listOf tvs.toArray cnt)], [(k0 + 2, o3')], [(k0 + 1, o2')], [(k0, o1')], cO, ck, cw]) (by kpf_close) rfl ⟨[], rfl, .nil, rfl, Nat.zero_le _⟩, ?_, ?_, ?_⟩
      · rintro i2 ys led hI9
        apply hI9.el; intro ts hR hl hle
        exact ⟨by kcf_m, by lia⟩
      · rintro Γc i2 v ys led ov2 K2 hrc ⟨mc, hcc⟩ hi hv3 hI9
        apply hI9.el; intro ts hR hl hle
        rintro hK2
        refine letG ?_; intro G9
        obtain ⟨q, tq, rfl, hq⟩ := ints_all hi3 hv3
        unfold G9; clear G9
        refine w_CallName <| w_glob rfl <| w_callK (by kd_p) ?_
        refine w_items_cons <| w_cell (by exact rfl) (by kcf_m) (by assumption) ?_
        refine w_items_cons <| w_List <| w_items_cons <| w_loc rfl <| w_items_nil <| w_newList (by kdl_here) fun _ => ?_
        refine w_items_nil ?_
        rename_i ax nx
        refine w_fn2_1 (told_spec hF (hok _) (.cons q tq .nil) (fun i hi => by rw [List.mem_singleton.mp hi]; exact hsm _ q (List.mem_of_getElem? hq)) (by show 1 ≤ 100; decide)) (by kdl_here) (by kpf_close) ?_
        intro d9 c9 h9
        rw [plain_one] at h9
        refine letG ?_; intro G9
        obtain ⟨v9, n9, t9, rfl, a9, hz9⟩ := h9
        unfold G9; clear G9
        obtain ⟨v8, rfl⟩ : ∃ v8, v9 = [v8] := by
          match v9, hz9 with
          | [v8], _ => exact ⟨v8, rfl⟩
        exact hK2 d9 [v8] n9 _ <| drop_ (l := [(d9, listOf (List.toArray [v8]) n9) :: t9, ts, cF, [(D, listOf tvs.toArray cnt)], [(k0 + 2, o3')], [(k0 + 1, o2')], [(k0, o1')], cO, ck, cw]) (l2 := [(d9, listOf (List.toArray [v8]) n9) :: t9 ++ ts, cF, [(D, listOf tvs.toArray cnt)], [(k0 + 2, o3')], [(k0 + 1, o2')], [(k0, o1')], cO, ck, cw]) (by kpf_close) (by simp) ⟨.head (.head _), R2Inv.next hR hl hle hq (a9.mono fun x hx => by simp at hx ⊢; exact .inr hx)⟩
      · rintro E cnt2 ys led hI9
        apply hI9.el; intro ts hR hl hle
        refine w_ListComp hc (gl' := [((Str.ofString "CHAR"), .int 0 564)]) (cl' := []) (CompOk.of rfl rfl rfl rfl rfl rfl (by intro p9; kqd_in)) ?_
        refine w_loc rfl ?_
        refine ⟨tvs.length, _, _, R2Inv tx [[(E, listOf ys.toArray cnt2)], ts, cF, [(D, listOf tvs.toArray cnt)], [(k0 + 2, o3')], [(k0 + 1, o2')], [(k0, o1')], cO, ck, cw], iter_list (by kcf_m),
          drop_ (l := [[(E, listOf ys.toArray cnt2)], ts, cF, [(D, listOf tvs.toArray cnt)], [(k0 + 2, o3')], [(k0 + 1, o2')], [(k0, o1')], cO, ck, cw]) (l2 := [[], [(E, listOf ys.toArray cnt2)], ts, cF, [(D, listOf tvs.toArray cnt)], [(k0 + 2, o3')], [(k0 + 1, o2')], [(k0, o1')], cO, ck, cw]) (by kpf_close) rfl ⟨[], rfl, .nil, rfl, Nat.zero_le _⟩, ?_, ?_, ?_⟩
        · rintro i2 ys led hI9
          apply hI9.el; intro ts hR hl hle
          exact ⟨by kcf_m, by lia⟩
        · rintro Γc i2 v ys2 led K2 hrc ⟨mc, hcc⟩ hi hv3 hI9
          apply hI9.el; intro ts2 hR2 hl2 hle2
          rintro hK2
          refine letG ?_; intro G9
          obtain ⟨q, tq, rfl, hq⟩ := ints_all hi3 hv3
          unfold G9; clear G9
          refine w_Tuple <| w_items_cons <| w_glob rfl <| w_items_cons <| w_loc rfl <| w_items_nil <| w_newTuple (by kdl_here) fun _ => ?_
          rename_i a
          exact hK2 _ _ _ <| drop_ (l := [[(a, tupO [.int 0 564, .int q tq])], ts2, [(E, listOf ys.toArray cnt2)], ts, cF, [(D, listOf tvs.toArray cnt)], [(k0 + 2, o3')], [(k0 + 1, o2')], [(k0, o1')], cO, ck, cw]) (l2 := [[(a, tupO [.int 0 564, .int q tq])] ++ ts2, [(E, listOf ys.toArray cnt2)], ts, cF, [(D, listOf tvs.toArray cnt)], [(k0 + 2, o3')], [(k0 + 1, o2')], [(k0, o1')], cO, ck, cw]) (by kpf_close) (by simp) (R2Inv.next hR2 hl2 hle2 hq (.cons (.tup (.head (.head _)) (.cons (.int _ _) (.cons (.int _ _) .nil))) .nil))
        · rintro E2 cnt3 ys2 led hI9
          apply hI9.el; intro ts2 hR2 hl2 hle2
          refine w_chrNe (nds := (tx.take tvs.length).map .chr) (by kcf_m) (by kcf_m) (by rw [List.map_map]; exact hR.mono fun x hx => by simp at hx ⊢; simp [hx]) (by rw [List.map_map]; exact hR2.mono fun x hx => by simp at hx ⊢; simp [hx]) ?_
          refine w_truthyB <| ite_F <| w_execs_nil <| seq_next <| w_execs_nil ?_
          exact hK1 _ _ _ trivial <| drop_ (l := [[(k0 + 2, o3')], [(k0 + 1, o2')], [(k0, o1')], cO, cF, ck, cw]) (by kpf_close) rfl ⟨_, _, _, _, _, rfl, rfl, ho1'⟩
  · rintro ls led hI9
    apply hI9.el; intro y1 y2 y3 o1 ov ho1
    refine seq_next <| w_execs_cons <| w_Return <| w_bool <| seq_ret ?_
    exact hK _ _


theorem clOk_three {k0 : Addr} (x : Str) (c : Addr) (h : [((Str.ofString "font"), k0 + 2), ((Str.ofString "letters"), k0 + 1), ((Str.ofString "bag"), k0)].lookup x = some c) : (x == ("__debug__" : Str)) = false ∧ (x == ("__classdict__" : Str)) = false ∧
    [((Str.ofString "font"), k0 + 1 + 1), ((Str.ofString "letters"), k0 + 1), ((Str.ofString "bag"), k0)].lookup x = some c ∧ ((fnS lawD).names.lookup x = some .cell ∨ (fnS lawD).names.lookup x = some .free) := by
  rw [List.lookup_cons] at h
  split at h
  · rename_i e
    rw [beq_iff_eq] at e; subst e
    exact ⟨rfl, rfl, by rw [List.lookup_cons]; exact h, .inl rfl⟩
  · rename_i e1
    rw [List.lookup_cons] at h
    split at h
    · rename_i e
      rw [beq_iff_eq] at e; subst e
      exact ⟨rfl, rfl, by rw [List.lookup_cons, e1, List.lookup_cons]; exact h, .inl rfl⟩
    · rename_i e2
      rw [List.lookup_cons] at h
      split at h
      · rename_i e
        rw [beq_iff_eq] at e; subst e
        exact ⟨rfl, rfl, by rw [List.lookup_cons, e1, List.lookup_cons, e2, List.lookup_cons]; exact h, .inl rfl⟩
      · cases h
theorem lsOk_seven {v : Option Value} (x : Str) (ov : Option Value) (h : List.lookup x [((Str.ofString "script"), v), ((Str.ofString "words"), none), ((Str.ofString "kerns"), none), ((Str.ofString "other"), none), ((Str.ofString "k"), none), ((Str.ofString "text"), none), ((Str.ofString "due"), none)] = some ov) : (fnS lawD).names.lookup x = some .local ∧ (x == ("__debug__" : Str)) = false :=
  (LsOk.all (m := fun y => if y = (Str.ofString "script") then v else none) (by
    refine ⟨⟨if_pos rfl, rfl, rfl⟩, ⟨if_neg (by decide), rfl, rfl⟩, ⟨if_neg (by decide), rfl, rfl⟩, ⟨if_neg (by decide), rfl, rfl⟩, ⟨if_neg (by decide), rfl, rfl⟩, ⟨if_neg (by decide), rfl, rfl⟩, ⟨if_neg (by decide), rfl, rfl⟩, trivial⟩) x ov h).2
theorem lb_join {w : World} {s₁ : Shared} {mg mb : Str → Option Value} {loose : List Str} {mean : ExcName → Option Value} {env : Env} {h₁ : Heap} {tk : Nat} {m : Str → Option Value} {o1 o2 o3 : Obj} {s k0 : Addr} {vs : List Value} {ns : List Int} {Q : Flow → Shared → Prop} {E : Value → Shared → Prop}
    (KX : (hK w.params).In s₁.heap) (T : Top hV loose mean mg mb s₁.heap) (hS : s₁.heap.IsList s vs.toArray) (hv : IntsAre vs ns) (hz : ¬ ((63 : Nat) : Int) < (ns.length : Int))
    (F : Fr s₁.heap s₁.heap.objs.size h₁ m) (N : News s₁.heap s₁.heap.objs.size h₁ [(k0 + 1 + 1, o3), (k0 + 1, o2), (k0, o1)])
    (ho3 : o3.data = .cell none) (ho2 : o2.data = .cell none) (ho1 : o1.data = .cell none)
    (hfr : env.frame = some s₁.heap.objs.size) (hloc : env.locals = s₁.heap.objs.size) (hsc : ∀ x, env.kindOf x = (fnS lawD).names.lookup x) (hkd : env.scope.kind = .function) (hgl : env.globals = mainGlobals) (hbu : env.builtins = builtinsNs)
    (hcl : env.cells = [((Str.ofString "font"), k0 + 1 + 1), ((Str.ofString "letters"), k0 + 1), ((Str.ofString "bag"), k0)])
    (hm : NsIs m [((Str.ofString "script"), some (.ref s)), ((Str.ofString "words"), none), ((Str.ofString "kerns"), none), ((Str.ofString "other"), none), ((Str.ofString "k"), none), ((Str.ofString "text"), none), ((Str.ofString "due"), none)])
    (hg : ∀ p, GlOk (hK p) (fnS lawD).names [((Str.ofString "_law_bag"), .ref 418), ((Str.ofString "_law_cell"), .ref 411), ((Str.ofString "_law_draw"), .ref 425), ((Str.ofString "_law_words"), .ref 430), ((Str.ofString "_law_kerns"), .ref 435), ((Str.ofString "_law_font"), .ref 440), ((Str.ofString "range"), .type "range"), ((Str.ofString "max"), .builtin "max"), ((Str.ofString "min"), .builtin "min"), ((Str.ofString "len"), .builtin "len"), ((Str.ofString "_law_due"), .ref 447), ((Str.ofString "_law_told"), .ref 454), ((Str.ofString "list"), .type "list")])
    (k : ∀ h' tk', (∀ b o, s₁.heap.get? b = some o → h'.get? b = some o) → Q (.ret (.bool true)) ⟨h', s₁.gens, s₁.drawn, tk', s₁.os⟩) :
    wpAny (model pw w) (callerA.deeper env) (execs (fnB lawD) env) Q E ⟨h₁, s₁.gens, s₁.drawn, tk, s₁.os⟩ := by
  let Γ : Fm := { w := w, A := callerA.deeper env, env := env, fenv := env, outer := [], A₀ := callerA, base := s₁.heap, h₀ := s₁.heap, L := s₁.heap.objs.size, comp := none, gens := s₁.gens, drawn := s₁.drawn, os := s₁.os, loose := loose, mean := mean, mg := mg, mb := mb, room := 13 }
  have ok : Γ.Ok [((Str.ofString "_law_bag"), .ref 418), ((Str.ofString "_law_cell"), .ref 411), ((Str.ofString "_law_draw"), .ref 425), ((Str.ofString "_law_words"), .ref 430), ((Str.ofString "_law_kerns"), .ref 435), ((Str.ofString "_law_font"), .ref 440), ((Str.ofString "range"), .type "range"), ((Str.ofString "max"), .builtin "max"), ((Str.ofString "min"), .builtin "min"), ((Str.ofString "len"), .builtin "len"), ((Str.ofString "_law_due"), .ref 447), ((Str.ofString "_law_told"), .ref 454), ((Str.ofString "list"), .type "list")]
      [((Str.ofString "font"), k0 + 2), ((Str.ofString "letters"), k0 + 1), ((Str.ofString "bag"), k0)] := by
    refine ⟨below_caller _, KX, T, rfl, hfr, hkd, rfl, Nat.le_of_ble_eq_true rfl, Nat.le_of_ble_eq_true rfl, hkd, hgl, hbu, ?_, ?_, fun _ => ⟨rfl, hloc⟩⟩
    · intro x v hx
      rw [hsc]
      exact (hg _).all x v hx
    · intro x c hx
      show _ ∧ _ ∧ env.cells.lookup x = _ ∧ (env.kindOf x = _ ∨ env.kindOf x = _)
      rw [hsc, hcl]
      exact clOk_three x c hx
  refine wpAny_mono (law_body (Γ := Γ) (K := fun f _ _ => f = .ret (.bool true)) hv (by have := hv.length; lia) hS (Nat.le_of_ble_eq_true rfl) rfl (fun _ _ => rfl) ho3 ho2 ho1 (hsc _) (hsc _) (hsc _) ok h₁ tk [] ⟨m, [], F, N, ?_, ?_, rfl, hm⟩) ?_ (fun _ _ x => x.elim)
  · show (List.map _ [(k0 + 2, o3), (k0 + 1, o2), (k0, o1)]).Nodup
    simp
  · intro x ov hx
    show env.kindOf x = _ ∧ _
    rw [hsc]
    exact lsOk_seven x ov hx
  · rintro f s ⟨h', tk', ls, led, rfl, st, rfl⟩
    obtain ⟨m', ex, F', _⟩ := st
    exact k h' tk' F'.keep

theorem jj : rw38.Holds := by
  refine hd rfl rfl rfl ?walk
  k_go0
  refine lb_join ‹_› ‹Top _ _ _ _ _ _› ‹Heap.IsList _ _ _› ‹IntsAre _ _› ‹_› ‹_› ‹_› (by assumption) (by assumption) (by assumption) rfl rfl (fun _ => rfl) rfl rfl rfl rfl (fun x ov h => ((LsOk.all (names := (fnS lawD).names) (by kqd_all)) x ov h).1) (by intro p9; kqd_in) ?_
  intro h' tk' hk
  refine ⟨.inl ⟨_, .bool true, [], rfl, ?_, ?_, ?_, ?_⟩, hk, rfl, ‹_›⟩
  · intro _; rfl
  · exact .bool true
  · first | with_unfolding_all rfl | kernel_rfl | (show (WShape.has _ _ _ && WTm.holds _ _ _) = true; rw [Bool.and_eq_true]; refine ⟨by with_unfolding_all rfl, ?_⟩; unfold WTm.holds; simp [WTm.eval])
  · intro _; exact ⟨List.nodup_nil, fun a h => by cases h⟩
end Mine
theorem PySem.Challenge.cw_sq0038_01_holds : PySem.Challenge.rw_sq0038_01.Holds :=
  Mine.jj
