import PyProof.Rows.All
import Wide.All
import OpenK.AllK
import Wide.FinOn
import PySem.Challenge.RW_xm0978_01
set_option Elab.async false
set_option maxRecDepth 100000
namespace Mine
open PySem PySem.W PyProof.Rows
def hQ : String → Str := Str.ofString
noncomputable abbrev P0 : Program := PySem.Challenge.rw_xm0978_01.row.prog
def hB (l : List Stmt) : List Stmt := match l with | .FunctionDef _ _ b _ _ _ _ _ _ _ :: _ => b | .ClassDef _ _ _ b _ _ _ _ _ _ _ :: _ => b | _ => []
noncomputable def hA (l : List Stmt) : Arguments := match l with | .FunctionDef _ a _ _ _ _ _ _ _ _ :: _ => a | _ => default
noncomputable def hC (l : List Stmt) : Scope := match l with | .FunctionDef _ _ _ _ _ _ s _ _ _ :: _ => s | .ClassDef _ _ _ _ _ _ s _ _ _ _ :: _ => s | _ => default
noncomputable def bE : List Stmt := behindTheImports P0
noncomputable def eE : Env := { scope := P0.main.scope, locals := mainNs, globals := mainNs, cells := [], code := (Value.ref 13), frame := some 14 }
noncomputable abbrev cE : Code := Code.body bE eE
abbrev fE : List Frame := [topFrame (Pos.mk 0 0 0 0)]
def nE : Option Value := (some (Value.ref 6))
noncomputable def j1 (p : Params) : Obj := (Obj.mk (Value.type "code") none (Data.fields #[(Value.str (hQ "<module>") 182), (Value.str (hQ "<module>") 183), (Value.str (hQ "/claim/cut.py") 184), (Value.int (1 : Int) 0), (Value.int (0 : Int) 0), (Value.int (0 : Int) 0), (Value.int (0 : Int) 0), (Value.int (0 : Int) 0), (Value.ref 11), (Value.bool Bool.false), (Value.int (181 : Int) 0), (Value.ref 12), Value.none, Value.none, Value.none, Value.none, (Value.int (185 : Int) 0), (Value.int (1 : Int) 0), (Value.str (hQ "/claim/cut.py") 186)]) #[])
noncomputable def j2 (p : Params) : Obj := (Obj.mk (Value.type "frame") none Data.plain #[(some (Value.ref 13)), (some (Value.ref 3)), (some (Value.ref 3)), none, (some (Value.str (hQ "__main__") 164)), none, (some (Value.ref 0))])
noncomputable def j3 (p : Params) : Obj := (Obj.mk Value.none none (Data.dict #[(DictEntry.mk (PyData.keyHash p (hQ "type.__subclasses__.Exception.0")) (Value.str (hQ "type.__subclasses__.Exception.0") 214) (Value.int (31 : Int) 0)), (DictEntry.mk (PyData.keyHash p (hQ "type.__subclasses__.Exception.n")) (Value.str (hQ "type.__subclasses__.Exception.n") 215) (Value.int (1 : Int) 0))] 2) #[])
noncomputable def j4 (p : Params) : Obj := (Obj.mk (Value.type "dict") none (Data.dict #[(DictEntry.mk (PyData.keyHash p (hQ "__name__")) (Value.str (hQ "__name__") 165) (Value.str (hQ "switchloom.bpdus") 234)), (DictEntry.mk (PyData.keyHash p (hQ "__doc__")) (Value.str (hQ "__doc__") 166) Value.none), (DictEntry.mk (PyData.keyHash p (hQ "__package__")) (Value.str (hQ "__package__") 167) Value.none), (DictEntry.mk (PyData.keyHash p (hQ "__loader__")) (Value.str (hQ "__loader__") 168) (Value.builtin "__main__.__loader__#opaque")), (DictEntry.mk (PyData.keyHash p (hQ "__spec__")) (Value.str (hQ "__spec__") 169) Value.none), (DictEntry.mk (PyData.keyHash p (hQ "__annotations__")) (Value.str (hQ "__annotations__") 170) (Value.ref 6)), (DictEntry.mk (PyData.keyHash p (hQ "__builtins__")) (Value.str (hQ "__builtins__") 171) (Value.ref 4)), (DictEntry.mk (PyData.keyHash p (hQ "__file__")) (Value.str (hQ "__file__") 173) (Value.str (hQ "/claim/cut.py") 172)), (DictEntry.mk (PyData.keyHash p (hQ "__cached__")) (Value.str (hQ "__cached__") 174) Value.none), (DictEntry.mk (PyData.keyHash p (hQ "SwitchError")) (Value.str (hQ "SwitchError") 217) (Value.ref 31)), (DictEntry.mk (PyData.keyHash p (hQ "SizeError")) (Value.str (hQ "SizeError") 233) (Value.ref 44)), (DictEntry.mk (PyData.keyHash p (hQ "ROLES")) (Value.str (hQ "ROLES") 240) (Value.ref 47)), (DictEntry.mk (PyData.keyHash p (hQ "PACKED")) (Value.str (hQ "PACKED") 249) (Value.ref 52)), (DictEntry.mk (PyData.keyHash p (hQ "Times")) (Value.str (hQ "Times") 299) (Value.ref 83)), (DictEntry.mk (PyData.keyHash p (hQ "Bpdu")) (Value.str (hQ "Bpdu") 369) (Value.ref 119))] 15) #[])
noncomputable def j5 (p : Params) : Obj := (Obj.mk Value.none none (Data.fields #[(Value.int (2 : Int) 0), (Value.int (0 : Int) 0), (Value.ref 20), (Value.int (7 : Int) 0), (Value.int (0 : Int) 0), (Value.ref 40), (Value.int (12 : Int) 0), (Value.int (0 : Int) 0), (Value.ref 58), (Value.int (25 : Int) 0), (Value.int (0 : Int) 0), (Value.ref 93)]) #[])
noncomputable def j6 (p : Params) : Obj := (Obj.mk (Value.type "tuple") none (Data.seq #[(Value.type "Exception")] 0) #[])
noncomputable def j7 (p : Params) : Obj := (Obj.mk (Value.type "builtin_function_or_method") none (Data.fields #[(Value.builtin "type.__prepare__"), (Value.type "type")]) #[])
noncomputable def j8 (p : Params) : Obj := (Obj.mk (Value.type "dict") none (Data.dict #[(DictEntry.mk (PyData.keyHash p (hQ "__module__")) (Value.str (hQ "__module__") 196) (Value.str (hQ "switchloom.errors") 187)), (DictEntry.mk (PyData.keyHash p (hQ "__qualname__")) (Value.str (hQ "__qualname__") 198) (Value.str (hQ "SwitchError") 197)), (DictEntry.mk (PyData.keyHash p (hQ "__firstlineno__")) (Value.str (hQ "__firstlineno__") 200) (Value.int (2 : Int) 199)), (DictEntry.mk (PyData.keyHash p (hQ "__init__")) (Value.str (hQ "__init__") 208) (Value.ref 28)), (DictEntry.mk (PyData.keyHash p (hQ "__static_attributes__")) (Value.str (hQ "__static_attributes__") 210) (Value.ref 29))] 5) #[])
noncomputable def j9 (p : Params) : Obj := (Obj.mk Value.none none (Data.fields #[(Value.int (4 : Int) 0), (Value.int (4 : Int) 0), (Value.ref 27)]) #[])
noncomputable def j10 (p : Params) : Obj := (Obj.mk (Value.type "code") none (Data.fields #[(Value.str (hQ "SwitchError") 191), (Value.str (hQ "SwitchError") 192), (Value.str (hQ "/claim/cut.py") 193), (Value.int (2 : Int) 0), (Value.int (0 : Int) 0), (Value.int (0 : Int) 0), (Value.int (0 : Int) 0), (Value.int (0 : Int) 0), (Value.ref 18), (Value.bool Bool.false), (Value.int (181 : Int) 0), (Value.ref 19), Value.none, Value.none, Value.none, Value.none, (Value.int (194 : Int) 0), (Value.int (2 : Int) 0), (Value.str (hQ "/claim/cut.py") 195)]) #[])
noncomputable def j11 (p : Params) : Obj := (Obj.mk (Value.type "frame") none Data.plain #[(some (Value.ref 20)), (some (Value.ref 3)), (some (Value.ref 17)), none, (some (Value.str (hQ "switchloom.errors") 187)), none, (some (Value.ref 0))])
noncomputable def j12 (p : Params) : Obj := (Obj.mk (Value.type "tuple") none (Data.seq #[(Value.str (hQ "self") 204), (Value.str (hQ "message") 205)] 0) #[])
noncomputable def j13 (p : Params) : Obj := (Obj.mk Value.none none (Data.func (FuncData.mk (hQ "__init__") (hQ "SwitchError.__init__") (hA (hB (bE.drop 1))) (FuncBody.stmts (hB (hB (bE.drop 1)))) (hC (hB (bE.drop 1))) 0 [] Value.none Value.none Value.none Value.none none Value.none Value.none 0)) #[])
noncomputable def j14 (p : Params) : Obj := (Obj.mk (Value.type "code") none (Data.fields #[(Value.str (hQ "__init__") 201), (Value.str (hQ "SwitchError.__init__") 202), (Value.str (hQ "/claim/cut.py") 203), (Value.int (4 : Int) 0), (Value.int (2 : Int) 0), (Value.int (0 : Int) 0), (Value.int (0 : Int) 0), (Value.int (3 : Int) 0), (Value.ref 22), (Value.bool Bool.true), (Value.int (181 : Int) 0), (Value.ref 23), Value.none, (Value.ref 24), (Value.ref 25), (Value.ref 26), (Value.int (206 : Int) 0), (Value.int (4 : Int) 0), (Value.str (hQ "/claim/cut.py") 207)]) #[])
noncomputable def j15 (p : Params) : Obj := (Obj.mk (Value.type "function") none (Data.func (FuncData.mk (hQ "__init__") (hQ "SwitchError.__init__") (hA (hB (bE.drop 1))) (FuncBody.stmts (hB (hB (bE.drop 1)))) (hC (hB (bE.drop 1))) 3 [] Value.none Value.none Value.none (Value.str (hQ "switchloom.errors") 187) none (Value.ref 27) Value.none 0)) #[])
noncomputable def j16 (p : Params) : Obj := (Obj.mk (Value.type "tuple") none (Data.seq #[(Value.str (hQ "message") 209)] 0) #[])
noncomputable def j17 (p : Params) : Obj := (Obj.mk (Value.type "dict") none (Data.dict #[(DictEntry.mk (PyData.keyHash p (hQ "__module__")) (Value.str (hQ "__module__") 196) (Value.str (hQ "switchloom.errors") 187)), (DictEntry.mk (PyData.keyHash p (hQ "__firstlineno__")) (Value.str (hQ "__firstlineno__") 200) (Value.int (2 : Int) 199)), (DictEntry.mk (PyData.keyHash p (hQ "__init__")) (Value.str (hQ "__init__") 208) (Value.ref 28)), (DictEntry.mk (PyData.keyHash p (hQ "__static_attributes__")) (Value.str (hQ "__static_attributes__") 210) (Value.ref 29)), (DictEntry.mk (PyData.keyHash p (hQ "__weakref__")) (Value.str (hQ "__weakref__") 212) (Value.ref 32)), (DictEntry.mk (PyData.keyHash p (hQ "__doc__")) (Value.str (hQ "__doc__") 213) Value.none)] 3) #[])
noncomputable def j18 (p : Params) : Obj := (Obj.mk (Value.type "type") none (Data.cls (ClassData.mk (hQ "SwitchError") [(Value.type "Exception")] [(Value.ref 31), (Value.type "Exception"), (Value.type "BaseException"), (Value.type "object")] 30 (hQ "SwitchError") Bool.true [] [(Value.ref 44)] Bool.false none Bool.false)) #[(some (Value.ref 15)), none, (some (Value.str (hQ "SwitchError") 189)), (some (Value.str (hQ "SwitchError") 197)), (some (Value.builtin "Exception.__new__")), (some (Value.bool Bool.true))])
noncomputable def j19 (p : Params) : Obj := (Obj.mk (Value.type "getset_descriptor") none (Data.fields #[(Value.str (hQ "__weakref__") 211), (Value.ref 31), (Value.builtin "ExceptionGroup.__weakref__"), Value.none]) #[])
noncomputable def j20 (p : Params) : Obj := (Obj.mk (Value.type "super") none (Data.fields #[(Value.ref 31), (Value.ref 31), (Value.ref 31)]) #[])
noncomputable def j21 (p : Params) : Obj := (Obj.mk (Value.type "builtin_function_or_method") none (Data.fields #[(Value.builtin "object.__init_subclass__"), (Value.ref 31)]) #[])
noncomputable def j22 (p : Params) : Obj := (Obj.mk (Value.type "tuple") none (Data.seq #[(Value.ref 31)] 0) #[])
noncomputable def j23 (p : Params) : Obj := (Obj.mk (Value.type "dict") none (Data.dict #[(DictEntry.mk (PyData.keyHash p (hQ "__module__")) (Value.str (hQ "__module__") 225) (Value.str (hQ "switchloom.errors") 187)), (DictEntry.mk (PyData.keyHash p (hQ "__qualname__")) (Value.str (hQ "__qualname__") 227) (Value.str (hQ "SizeError") 226)), (DictEntry.mk (PyData.keyHash p (hQ "__firstlineno__")) (Value.str (hQ "__firstlineno__") 229) (Value.int (7 : Int) 228)), (DictEntry.mk (PyData.keyHash p (hQ "__static_attributes__")) (Value.str (hQ "__static_attributes__") 230) (Value.ref 42))] 4) #[])
noncomputable def j24 (p : Params) : Obj := (Obj.mk (Value.type "code") none (Data.fields #[(Value.str (hQ "SizeError") 220), (Value.str (hQ "SizeError") 221), (Value.str (hQ "/claim/cut.py") 222), (Value.int (7 : Int) 0), (Value.int (0 : Int) 0), (Value.int (0 : Int) 0), (Value.int (0 : Int) 0), (Value.int (0 : Int) 0), (Value.ref 38), (Value.bool Bool.false), (Value.int (181 : Int) 0), (Value.ref 39), Value.none, Value.none, Value.none, Value.none, (Value.int (223 : Int) 0), (Value.int (7 : Int) 0), (Value.str (hQ "/claim/cut.py") 224)]) #[])
noncomputable def j25 (p : Params) : Obj := (Obj.mk (Value.type "frame") none Data.plain #[(some (Value.ref 40)), (some (Value.ref 3)), (some (Value.ref 37)), none, (some (Value.str (hQ "switchloom.errors") 187)), none, (some (Value.ref 0))])
noncomputable def j26 (p : Params) : Obj := (Obj.mk (Value.type "dict") none (Data.dict #[(DictEntry.mk (PyData.keyHash p (hQ "__module__")) (Value.str (hQ "__module__") 225) (Value.str (hQ "switchloom.errors") 187)), (DictEntry.mk (PyData.keyHash p (hQ "__firstlineno__")) (Value.str (hQ "__firstlineno__") 229) (Value.int (7 : Int) 228)), (DictEntry.mk (PyData.keyHash p (hQ "__static_attributes__")) (Value.str (hQ "__static_attributes__") 230) (Value.ref 42)), (DictEntry.mk (PyData.keyHash p (hQ "__doc__")) (Value.str (hQ "__doc__") 231) Value.none)] 2) #[])
noncomputable def j27 (p : Params) : Obj := (Obj.mk (Value.type "type") none (Data.cls (ClassData.mk (hQ "SizeError") [(Value.ref 31)] [(Value.ref 44), (Value.ref 31), (Value.type "Exception"), (Value.type "BaseException"), (Value.type "object")] 43 (hQ "SizeError") Bool.true [] [] Bool.false none Bool.false)) #[(some (Value.ref 35)), none, (some (Value.str (hQ "SizeError") 218)), (some (Value.str (hQ "SizeError") 226)), (some (Value.builtin "Exception.__new__")), (some (Value.bool Bool.true))])
noncomputable def j28 (p : Params) : Obj := (Obj.mk (Value.type "super") none (Data.fields #[(Value.ref 44), (Value.ref 44), (Value.ref 44)]) #[])
noncomputable def j29 (p : Params) : Obj := (Obj.mk (Value.type "builtin_function_or_method") none (Data.fields #[(Value.builtin "object.__init_subclass__"), (Value.ref 44)]) #[])
noncomputable def j30 (p : Params) : Obj := (Obj.mk (Value.type "tuple") none (Data.seq #[(Value.str (hQ "none") 236), (Value.str (hQ "alternate") 237), (Value.str (hQ "root") 238), (Value.str (hQ "designated") 239)] 0) #[])
noncomputable def j31 (p : Params) : Obj := (Obj.mk (Value.type "tuple") none (Data.seq #[(Value.int (0 : Int) 241), (Value.str (hQ "config") 242)] 0) #[])
noncomputable def j32 (p : Params) : Obj := (Obj.mk (Value.type "tuple") none (Data.seq #[(Value.int (0 : Int) 243), (Value.str (hQ "change") 244)] 0) #[])
noncomputable def j33 (p : Params) : Obj := (Obj.mk (Value.type "tuple") none (Data.seq #[(Value.int (2 : Int) 245), (Value.str (hQ "rapid") 246)] 0) #[])
noncomputable def j34 (p : Params) : Obj := (Obj.mk (Value.type "tuple") none (Data.seq #[(Value.int (3 : Int) 247), (Value.str (hQ "rapid") 248)] 0) #[])
noncomputable def j35 (p : Params) : Obj := (Obj.mk (Value.type "tuple") none (Data.seq #[(Value.ref 48), (Value.ref 49), (Value.ref 50), (Value.ref 51)] 0) #[])
noncomputable def j36 (p : Params) : Obj := (Obj.mk (Value.type "dict") none (Data.dict #[(DictEntry.mk (PyData.keyHash p (hQ "__module__")) (Value.str (hQ "__module__") 257) (Value.str (hQ "switchloom.bpdus") 234)), (DictEntry.mk (PyData.keyHash p (hQ "__qualname__")) (Value.str (hQ "__qualname__") 259) (Value.str (hQ "Times") 258)), (DictEntry.mk (PyData.keyHash p (hQ "__firstlineno__")) (Value.str (hQ "__firstlineno__") 261) (Value.int (12 : Int) 260)), (DictEntry.mk (PyData.keyHash p (hQ "__init__")) (Value.str (hQ "__init__") 272) (Value.ref 66)), (DictEntry.mk (PyData.keyHash p (hQ "told")) (Value.str (hQ "told") 279) (Value.ref 73)), (DictEntry.mk (PyData.keyHash p (hQ "with_age")) (Value.str (hQ "with_age") 287) (Value.ref 80)), (DictEntry.mk (PyData.keyHash p (hQ "__static_attributes__")) (Value.str (hQ "__static_attributes__") 292) (Value.ref 81))] 7) #[])
noncomputable def j37 (p : Params) : Obj := (Obj.mk Value.none none (Data.fields #[(Value.int (14 : Int) 0), (Value.int (4 : Int) 0), (Value.ref 65), (Value.int (20 : Int) 0), (Value.int (4 : Int) 0), (Value.ref 72), (Value.int (23 : Int) 0), (Value.int (4 : Int) 0), (Value.ref 79)]) #[])
noncomputable def j38 (p : Params) : Obj := (Obj.mk (Value.type "code") none (Data.fields #[(Value.str (hQ "Times") 252), (Value.str (hQ "Times") 253), (Value.str (hQ "/claim/cut.py") 254), (Value.int (12 : Int) 0), (Value.int (0 : Int) 0), (Value.int (0 : Int) 0), (Value.int (0 : Int) 0), (Value.int (0 : Int) 0), (Value.ref 56), (Value.bool Bool.false), (Value.int (181 : Int) 0), (Value.ref 57), Value.none, Value.none, Value.none, Value.none, (Value.int (255 : Int) 0), (Value.int (12 : Int) 0), (Value.str (hQ "/claim/cut.py") 256)]) #[])
noncomputable def j39 (p : Params) : Obj := (Obj.mk (Value.type "frame") none Data.plain #[(some (Value.ref 58)), (some (Value.ref 3)), (some (Value.ref 55)), none, (some (Value.str (hQ "switchloom.bpdus") 234)), none, (some (Value.ref 0))])
noncomputable def j40 (p : Params) : Obj := (Obj.mk (Value.type "tuple") none (Data.seq #[(Value.str (hQ "self") 265), (Value.str (hQ "age") 266), (Value.str (hQ "max_age") 267), (Value.str (hQ "hello") 268), (Value.str (hQ "delay") 269)] 0) #[])
noncomputable def j41 (p : Params) : Obj := (Obj.mk Value.none none (Data.func (FuncData.mk (hQ "__init__") (hQ "Times.__init__") (hA (hB (bE.drop 6))) (FuncBody.stmts (hB (hB (bE.drop 6)))) (hC (hB (bE.drop 6))) 0 [] Value.none Value.none Value.none Value.none none Value.none Value.none 0)) #[])
noncomputable def j42 (p : Params) : Obj := (Obj.mk (Value.type "code") none (Data.fields #[(Value.str (hQ "__init__") 262), (Value.str (hQ "Times.__init__") 263), (Value.str (hQ "/claim/cut.py") 264), (Value.int (14 : Int) 0), (Value.int (5 : Int) 0), (Value.int (0 : Int) 0), (Value.int (0 : Int) 0), (Value.int (3 : Int) 0), (Value.ref 60), (Value.bool Bool.true), (Value.int (181 : Int) 0), (Value.ref 61), Value.none, (Value.ref 62), (Value.ref 63), (Value.ref 64), (Value.int (270 : Int) 0), (Value.int (14 : Int) 0), (Value.str (hQ "/claim/cut.py") 271)]) #[])
noncomputable def j43 (p : Params) : Obj := (Obj.mk (Value.type "function") none (Data.func (FuncData.mk (hQ "__init__") (hQ "Times.__init__") (hA (hB (bE.drop 6))) (FuncBody.stmts (hB (hB (bE.drop 6)))) (hC (hB (bE.drop 6))) 3 [] Value.none Value.none Value.none (Value.str (hQ "switchloom.bpdus") 234) none (Value.ref 65) Value.none 0)) #[])
noncomputable def j44 (p : Params) : Obj := (Obj.mk (Value.type "tuple") none (Data.seq #[(Value.str (hQ "self") 276)] 0) #[])
noncomputable def j45 (p : Params) : Obj := (Obj.mk Value.none none (Data.func (FuncData.mk (hQ "told") (hQ "Times.told") (hA ((hB (bE.drop 6)).drop 1)) (FuncBody.stmts (hB ((hB (bE.drop 6)).drop 1))) (hC ((hB (bE.drop 6)).drop 1)) 0 [] Value.none Value.none Value.none Value.none none Value.none Value.none 0)) #[])
noncomputable def j46 (p : Params) : Obj := (Obj.mk (Value.type "code") none (Data.fields #[(Value.str (hQ "told") 273), (Value.str (hQ "Times.told") 274), (Value.str (hQ "/claim/cut.py") 275), (Value.int (20 : Int) 0), (Value.int (1 : Int) 0), (Value.int (0 : Int) 0), (Value.int (0 : Int) 0), (Value.int (3 : Int) 0), (Value.ref 67), (Value.bool Bool.true), (Value.int (181 : Int) 0), (Value.ref 68), Value.none, (Value.ref 69), (Value.ref 70), (Value.ref 71), (Value.int (277 : Int) 0), (Value.int (20 : Int) 0), (Value.str (hQ "/claim/cut.py") 278)]) #[])
noncomputable def j47 (p : Params) : Obj := (Obj.mk (Value.type "function") none (Data.func (FuncData.mk (hQ "told") (hQ "Times.told") (hA ((hB (bE.drop 6)).drop 1)) (FuncBody.stmts (hB ((hB (bE.drop 6)).drop 1))) (hC ((hB (bE.drop 6)).drop 1)) 3 [] Value.none Value.none Value.none (Value.str (hQ "switchloom.bpdus") 234) none (Value.ref 72) Value.none 0)) #[])
noncomputable def j48 (p : Params) : Obj := (Obj.mk (Value.type "tuple") none (Data.seq #[(Value.str (hQ "self") 283), (Value.str (hQ "age") 284)] 0) #[])
noncomputable def j49 (p : Params) : Obj := (Obj.mk Value.none none (Data.func (FuncData.mk (hQ "with_age") (hQ "Times.with_age") (hA ((hB (bE.drop 6)).drop 2)) (FuncBody.stmts (hB ((hB (bE.drop 6)).drop 2))) (hC ((hB (bE.drop 6)).drop 2)) 0 [] Value.none Value.none Value.none Value.none none Value.none Value.none 0)) #[])
noncomputable def j50 (p : Params) : Obj := (Obj.mk (Value.type "code") none (Data.fields #[(Value.str (hQ "with_age") 280), (Value.str (hQ "Times.with_age") 281), (Value.str (hQ "/claim/cut.py") 282), (Value.int (23 : Int) 0), (Value.int (2 : Int) 0), (Value.int (0 : Int) 0), (Value.int (0 : Int) 0), (Value.int (3 : Int) 0), (Value.ref 74), (Value.bool Bool.true), (Value.int (181 : Int) 0), (Value.ref 75), Value.none, (Value.ref 76), (Value.ref 77), (Value.ref 78), (Value.int (285 : Int) 0), (Value.int (23 : Int) 0), (Value.str (hQ "/claim/cut.py") 286)]) #[])
noncomputable def j51 (p : Params) : Obj := (Obj.mk (Value.type "function") none (Data.func (FuncData.mk (hQ "with_age") (hQ "Times.with_age") (hA ((hB (bE.drop 6)).drop 2)) (FuncBody.stmts (hB ((hB (bE.drop 6)).drop 2))) (hC ((hB (bE.drop 6)).drop 2)) 3 [] Value.none Value.none Value.none (Value.str (hQ "switchloom.bpdus") 234) none (Value.ref 79) Value.none 0)) #[])
noncomputable def j52 (p : Params) : Obj := (Obj.mk (Value.type "tuple") none (Data.seq #[(Value.str (hQ "age") 288), (Value.str (hQ "delay") 289), (Value.str (hQ "hello") 290), (Value.str (hQ "max_age") 291)] 0) #[])
noncomputable def j53 (p : Params) : Obj := (Obj.mk (Value.type "dict") none (Data.dict #[(DictEntry.mk (PyData.keyHash p (hQ "__module__")) (Value.str (hQ "__module__") 257) (Value.str (hQ "switchloom.bpdus") 234)), (DictEntry.mk (PyData.keyHash p (hQ "__firstlineno__")) (Value.str (hQ "__firstlineno__") 261) (Value.int (12 : Int) 260)), (DictEntry.mk (PyData.keyHash p (hQ "__init__")) (Value.str (hQ "__init__") 272) (Value.ref 66)), (DictEntry.mk (PyData.keyHash p (hQ "told")) (Value.str (hQ "told") 279) (Value.ref 73)), (DictEntry.mk (PyData.keyHash p (hQ "with_age")) (Value.str (hQ "with_age") 287) (Value.ref 80)), (DictEntry.mk (PyData.keyHash p (hQ "__static_attributes__")) (Value.str (hQ "__static_attributes__") 292) (Value.ref 81)), (DictEntry.mk (PyData.keyHash p (hQ "__dict__")) (Value.str (hQ "__dict__") 294) (Value.ref 84)), (DictEntry.mk (PyData.keyHash p (hQ "__weakref__")) (Value.str (hQ "__weakref__") 296) (Value.ref 85)), (DictEntry.mk (PyData.keyHash p (hQ "__doc__")) (Value.str (hQ "__doc__") 297) Value.none)] 4) #[])
noncomputable def j54 (p : Params) : Obj := (Obj.mk (Value.type "type") none (Data.cls (ClassData.mk (hQ "Times") [(Value.type "object")] [(Value.ref 83), (Value.type "object")] 82 (hQ "Times") Bool.true [] [] Bool.false none Bool.false)) #[none, none, (some (Value.str (hQ "Times") 250)), (some (Value.str (hQ "Times") 258)), (some (Value.builtin "object.__new__")), (some (Value.bool Bool.true))])
noncomputable def j55 (p : Params) : Obj := (Obj.mk (Value.type "getset_descriptor") none (Data.fields #[(Value.str (hQ "__dict__") 293), (Value.ref 83), (Value.builtin "function.__dict__"), (Value.builtin "function.__dict__#set")]) #[])
noncomputable def j56 (p : Params) : Obj := (Obj.mk (Value.type "getset_descriptor") none (Data.fields #[(Value.str (hQ "__weakref__") 295), (Value.ref 83), (Value.builtin "ExceptionGroup.__weakref__"), Value.none]) #[])
noncomputable def j57 (p : Params) : Obj := (Obj.mk (Value.type "super") none (Data.fields #[(Value.ref 83), (Value.ref 83), (Value.ref 83)]) #[])
noncomputable def j58 (p : Params) : Obj := (Obj.mk (Value.type "builtin_function_or_method") none (Data.fields #[(Value.builtin "object.__init_subclass__"), (Value.ref 83)]) #[])
noncomputable def j59 (p : Params) : Obj := (Obj.mk (Value.type "dict") none (Data.dict #[(DictEntry.mk (PyData.keyHash p (hQ "__module__")) (Value.str (hQ "__module__") 307) (Value.str (hQ "switchloom.bpdus") 234)), (DictEntry.mk (PyData.keyHash p (hQ "__qualname__")) (Value.str (hQ "__qualname__") 309) (Value.str (hQ "Bpdu") 308)), (DictEntry.mk (PyData.keyHash p (hQ "__firstlineno__")) (Value.str (hQ "__firstlineno__") 311) (Value.int (25 : Int) 310)), (DictEntry.mk (PyData.keyHash p (hQ "__init__")) (Value.str (hQ "__init__") 332) (Value.ref 102)), (DictEntry.mk (PyData.keyHash p (hQ "flags")) (Value.str (hQ "flags") 340) (Value.ref 109)), (DictEntry.mk (PyData.keyHash p (hQ "told")) (Value.str (hQ "told") 349) (Value.ref 116)), (DictEntry.mk (PyData.keyHash p (hQ "__static_attributes__")) (Value.str (hQ "__static_attributes__") 362) (Value.ref 117))] 7) #[])
noncomputable def j60 (p : Params) : Obj := (Obj.mk Value.none none (Data.fields #[(Value.int (27 : Int) 0), (Value.int (4 : Int) 0), (Value.ref 101), (Value.int (41 : Int) 0), (Value.int (4 : Int) 0), (Value.ref 108), (Value.int (48 : Int) 0), (Value.int (4 : Int) 0), (Value.ref 115)]) #[])
noncomputable def j61 (p : Params) : Obj := (Obj.mk (Value.type "code") none (Data.fields #[(Value.str (hQ "Bpdu") 302), (Value.str (hQ "Bpdu") 303), (Value.str (hQ "/claim/cut.py") 304), (Value.int (25 : Int) 0), (Value.int (0 : Int) 0), (Value.int (0 : Int) 0), (Value.int (0 : Int) 0), (Value.int (0 : Int) 0), (Value.ref 91), (Value.bool Bool.false), (Value.int (181 : Int) 0), (Value.ref 92), Value.none, Value.none, Value.none, Value.none, (Value.int (305 : Int) 0), (Value.int (25 : Int) 0), (Value.str (hQ "/claim/cut.py") 306)]) #[])
noncomputable def j62 (p : Params) : Obj := (Obj.mk (Value.type "frame") none Data.plain #[(some (Value.ref 93)), (some (Value.ref 3)), (some (Value.ref 90)), none, (some (Value.str (hQ "switchloom.bpdus") 234)), none, (some (Value.ref 0))])
noncomputable def j63 (p : Params) : Obj := (Obj.mk (Value.type "tuple") none (Data.seq #[Value.none, Value.none, (Value.bool Bool.false), (Value.bool Bool.false), (Value.bool Bool.false), (Value.bool Bool.false), (Value.str (hQ "none") 312), (Value.bool Bool.false), (Value.bool Bool.false), (Value.bytes #[] 313)] 0) #[])
noncomputable def j64 (p : Params) : Obj := (Obj.mk (Value.type "tuple") none (Data.seq #[(Value.str (hQ "self") 317), (Value.str (hQ "version") 318), (Value.str (hQ "kind") 319), (Value.str (hQ "vector") 320), (Value.str (hQ "times") 321), (Value.str (hQ "is_change") 322), (Value.str (hQ "is_change_ack") 323), (Value.str (hQ "is_proposal") 324), (Value.str (hQ "is_agreement") 325), (Value.str (hQ "role") 326), (Value.str (hQ "is_learning") 327), (Value.str (hQ "is_forwarding") 328), (Value.str (hQ "tail") 329)] 0) #[])
noncomputable def j65 (p : Params) : Obj := (Obj.mk Value.none none (Data.func (FuncData.mk (hQ "__init__") (hQ "Bpdu.__init__") (hA (hB (bE.drop 7))) (FuncBody.stmts (hB (hB (bE.drop 7)))) (hC (hB (bE.drop 7))) 0 [] Value.none Value.none Value.none Value.none none Value.none Value.none 0)) #[])
noncomputable def j66 (p : Params) : Obj := (Obj.mk (Value.type "code") none (Data.fields #[(Value.str (hQ "__init__") 314), (Value.str (hQ "Bpdu.__init__") 315), (Value.str (hQ "/claim/cut.py") 316), (Value.int (27 : Int) 0), (Value.int (13 : Int) 0), (Value.int (0 : Int) 0), (Value.int (0 : Int) 0), (Value.int (3 : Int) 0), (Value.ref 96), (Value.bool Bool.true), (Value.int (181 : Int) 0), (Value.ref 97), Value.none, (Value.ref 98), (Value.ref 99), (Value.ref 100), (Value.int (330 : Int) 0), (Value.int (27 : Int) 0), (Value.str (hQ "/claim/cut.py") 331)]) #[])
noncomputable def j67 (p : Params) : Obj := (Obj.mk (Value.type "function") none (Data.func (FuncData.mk (hQ "__init__") (hQ "Bpdu.__init__") (hA (hB (bE.drop 7))) (FuncBody.stmts (hB (hB (bE.drop 7)))) (hC (hB (bE.drop 7))) 3 [] (Value.ref 95) Value.none Value.none (Value.str (hQ "switchloom.bpdus") 234) none (Value.ref 101) Value.none 0)) #[])
noncomputable def j68 (p : Params) : Obj := (Obj.mk (Value.type "tuple") none (Data.seq #[(Value.str (hQ "self") 336), (Value.str (hQ "found") 337)] 0) #[])
noncomputable def j69 (p : Params) : Obj := (Obj.mk Value.none none (Data.func (FuncData.mk (hQ "flags") (hQ "Bpdu.flags") (hA ((hB (bE.drop 7)).drop 1)) (FuncBody.stmts (hB ((hB (bE.drop 7)).drop 1))) (hC ((hB (bE.drop 7)).drop 1)) 0 [] Value.none Value.none Value.none Value.none none Value.none Value.none 0)) #[])
noncomputable def j70 (p : Params) : Obj := (Obj.mk (Value.type "code") none (Data.fields #[(Value.str (hQ "flags") 333), (Value.str (hQ "Bpdu.flags") 334), (Value.str (hQ "/claim/cut.py") 335), (Value.int (41 : Int) 0), (Value.int (1 : Int) 0), (Value.int (0 : Int) 0), (Value.int (0 : Int) 0), (Value.int (3 : Int) 0), (Value.ref 103), (Value.bool Bool.true), (Value.int (181 : Int) 0), (Value.ref 104), Value.none, (Value.ref 105), (Value.ref 106), (Value.ref 107), (Value.int (338 : Int) 0), (Value.int (41 : Int) 0), (Value.str (hQ "/claim/cut.py") 339)]) #[])
noncomputable def j71 (p : Params) : Obj := (Obj.mk (Value.type "function") none (Data.func (FuncData.mk (hQ "flags") (hQ "Bpdu.flags") (hA ((hB (bE.drop 7)).drop 1)) (FuncBody.stmts (hB ((hB (bE.drop 7)).drop 1))) (hC ((hB (bE.drop 7)).drop 1)) 3 [] Value.none Value.none Value.none (Value.str (hQ "switchloom.bpdus") 234) none (Value.ref 108) Value.none 0)) #[])
noncomputable def j72 (p : Params) : Obj := (Obj.mk (Value.type "tuple") none (Data.seq #[(Value.str (hQ "self") 344), (Value.str (hQ "times") 345), (Value.str (hQ "head") 346)] 0) #[])
noncomputable def j73 (p : Params) : Obj := (Obj.mk Value.none none (Data.func (FuncData.mk (hQ "told") (hQ "Bpdu.told") (hA ((hB (bE.drop 7)).drop 2)) (FuncBody.stmts (hB ((hB (bE.drop 7)).drop 2))) (hC ((hB (bE.drop 7)).drop 2)) 0 [] Value.none Value.none Value.none Value.none none Value.none Value.none 0)) #[])
noncomputable def j74 (p : Params) : Obj := (Obj.mk (Value.type "code") none (Data.fields #[(Value.str (hQ "told") 341), (Value.str (hQ "Bpdu.told") 342), (Value.str (hQ "/claim/cut.py") 343), (Value.int (48 : Int) 0), (Value.int (1 : Int) 0), (Value.int (0 : Int) 0), (Value.int (0 : Int) 0), (Value.int (3 : Int) 0), (Value.ref 110), (Value.bool Bool.true), (Value.int (181 : Int) 0), (Value.ref 111), Value.none, (Value.ref 112), (Value.ref 113), (Value.ref 114), (Value.int (347 : Int) 0), (Value.int (48 : Int) 0), (Value.str (hQ "/claim/cut.py") 348)]) #[])
noncomputable def j75 (p : Params) : Obj := (Obj.mk (Value.type "function") none (Data.func (FuncData.mk (hQ "told") (hQ "Bpdu.told") (hA ((hB (bE.drop 7)).drop 2)) (FuncBody.stmts (hB ((hB (bE.drop 7)).drop 2))) (hC ((hB (bE.drop 7)).drop 2)) 3 [] Value.none Value.none Value.none (Value.str (hQ "switchloom.bpdus") 234) none (Value.ref 115) Value.none 0)) #[])
noncomputable def j76 (p : Params) : Obj := (Obj.mk (Value.type "tuple") none (Data.seq #[(Value.str (hQ "is_agreement") 350), (Value.str (hQ "is_change") 351), (Value.str (hQ "is_change_ack") 352), (Value.str (hQ "is_forwarding") 353), (Value.str (hQ "is_learning") 354), (Value.str (hQ "is_proposal") 355), (Value.str (hQ "kind") 356), (Value.str (hQ "role") 357), (Value.str (hQ "tail") 358), (Value.str (hQ "times") 359), (Value.str (hQ "vector") 360), (Value.str (hQ "version") 361)] 0) #[])
noncomputable def j77 (p : Params) : Obj := (Obj.mk (Value.type "dict") none (Data.dict #[(DictEntry.mk (PyData.keyHash p (hQ "__module__")) (Value.str (hQ "__module__") 307) (Value.str (hQ "switchloom.bpdus") 234)), (DictEntry.mk (PyData.keyHash p (hQ "__firstlineno__")) (Value.str (hQ "__firstlineno__") 311) (Value.int (25 : Int) 310)), (DictEntry.mk (PyData.keyHash p (hQ "__init__")) (Value.str (hQ "__init__") 332) (Value.ref 102)), (DictEntry.mk (PyData.keyHash p (hQ "flags")) (Value.str (hQ "flags") 340) (Value.ref 109)), (DictEntry.mk (PyData.keyHash p (hQ "told")) (Value.str (hQ "told") 349) (Value.ref 116)), (DictEntry.mk (PyData.keyHash p (hQ "__static_attributes__")) (Value.str (hQ "__static_attributes__") 362) (Value.ref 117)), (DictEntry.mk (PyData.keyHash p (hQ "__dict__")) (Value.str (hQ "__dict__") 364) (Value.ref 120)), (DictEntry.mk (PyData.keyHash p (hQ "__weakref__")) (Value.str (hQ "__weakref__") 366) (Value.ref 121)), (DictEntry.mk (PyData.keyHash p (hQ "__doc__")) (Value.str (hQ "__doc__") 367) Value.none)] 4) #[])
noncomputable def j78 (p : Params) : Obj := (Obj.mk (Value.type "type") none (Data.cls (ClassData.mk (hQ "Bpdu") [(Value.type "object")] [(Value.ref 119), (Value.type "object")] 118 (hQ "Bpdu") Bool.true [] [] Bool.false none Bool.false)) #[none, none, (some (Value.str (hQ "Bpdu") 300)), (some (Value.str (hQ "Bpdu") 308)), (some (Value.builtin "object.__new__")), (some (Value.bool Bool.true))])
noncomputable def j79 (p : Params) : Obj := (Obj.mk (Value.type "getset_descriptor") none (Data.fields #[(Value.str (hQ "__dict__") 363), (Value.ref 119), (Value.builtin "function.__dict__"), (Value.builtin "function.__dict__#set")]) #[])
noncomputable def j80 (p : Params) : Obj := (Obj.mk (Value.type "getset_descriptor") none (Data.fields #[(Value.str (hQ "__weakref__") 365), (Value.ref 119), (Value.builtin "ExceptionGroup.__weakref__"), Value.none]) #[])
noncomputable def j81 (p : Params) : Obj := (Obj.mk (Value.type "super") none (Data.fields #[(Value.ref 119), (Value.ref 119), (Value.ref 119)]) #[])
noncomputable def j82 (p : Params) : Obj := (Obj.mk (Value.type "builtin_function_or_method") none (Data.fields #[(Value.builtin "object.__init_subclass__"), (Value.ref 119)]) #[])
noncomputable def j83 (p : Params) : Obj := (Obj.mk (Value.type "dict") none (Data.dict #[(DictEntry.mk (PyData.keyHash p (hQ "__name__")) (Value.str (hQ "__name__") 165) (Value.str (hQ "law_xm0978_01") 456)), (DictEntry.mk (PyData.keyHash p (hQ "__doc__")) (Value.str (hQ "__doc__") 166) Value.none), (DictEntry.mk (PyData.keyHash p (hQ "__package__")) (Value.str (hQ "__package__") 167) Value.none), (DictEntry.mk (PyData.keyHash p (hQ "__loader__")) (Value.str (hQ "__loader__") 168) (Value.builtin "__main__.__loader__#opaque")), (DictEntry.mk (PyData.keyHash p (hQ "__spec__")) (Value.str (hQ "__spec__") 169) Value.none), (DictEntry.mk (PyData.keyHash p (hQ "__annotations__")) (Value.str (hQ "__annotations__") 170) (Value.ref 6)), (DictEntry.mk (PyData.keyHash p (hQ "__builtins__")) (Value.str (hQ "__builtins__") 171) (Value.ref 4)), (DictEntry.mk (PyData.keyHash p (hQ "__file__")) (Value.str (hQ "__file__") 173) (Value.str (hQ "/claim/cut.py") 172)), (DictEntry.mk (PyData.keyHash p (hQ "__cached__")) (Value.str (hQ "__cached__") 174) Value.none), (DictEntry.mk (PyData.keyHash p (hQ "SwitchError")) (Value.str (hQ "SwitchError") 217) (Value.ref 31)), (DictEntry.mk (PyData.keyHash p (hQ "SizeError")) (Value.str (hQ "SizeError") 233) (Value.ref 44)), (DictEntry.mk (PyData.keyHash p (hQ "ROLES")) (Value.str (hQ "ROLES") 240) (Value.ref 47)), (DictEntry.mk (PyData.keyHash p (hQ "PACKED")) (Value.str (hQ "PACKED") 249) (Value.ref 52)), (DictEntry.mk (PyData.keyHash p (hQ "Times")) (Value.str (hQ "Times") 299) (Value.ref 83)), (DictEntry.mk (PyData.keyHash p (hQ "Bpdu")) (Value.str (hQ "Bpdu") 369) (Value.ref 119)), (DictEntry.mk (PyData.keyHash p (hQ "number_octets")) (Value.str (hQ "number_octets") 375) (Value.ref 128)), (DictEntry.mk (PyData.keyHash p (hQ "octets_number")) (Value.str (hQ "octets_number") 384) (Value.ref 135)), (DictEntry.mk (PyData.keyHash p (hQ "bridge_octets")) (Value.str (hQ "bridge_octets") 391) (Value.ref 142)), (DictEntry.mk (PyData.keyHash p (hQ "port_octets")) (Value.str (hQ "port_octets") 400) (Value.ref 149)), (DictEntry.mk (PyData.keyHash p (hQ "vector_octets")) (Value.str (hQ "vector_octets") 411) (Value.ref 156)), (DictEntry.mk (PyData.keyHash p (hQ "times_octets")) (Value.str (hQ "times_octets") 420) (Value.ref 163)), (DictEntry.mk (PyData.keyHash p (hQ "check_bpdu")) (Value.str (hQ "check_bpdu") 427) (Value.ref 170)), (DictEntry.mk (PyData.keyHash p (hQ "read_bridge")) (Value.str (hQ "read_bridge") 434) (Value.ref 177)), (DictEntry.mk (PyData.keyHash p (hQ "read_port")) (Value.str (hQ "read_port") 442) (Value.ref 184)), (DictEntry.mk (PyData.keyHash p (hQ "read_vector")) (Value.str (hQ "read_vector") 449) (Value.ref 191)), (DictEntry.mk (PyData.keyHash p (hQ "read_times")) (Value.str (hQ "read_times") 455) (Value.ref 196)), (DictEntry.mk (PyData.keyHash p (hQ "_law_pool")) (Value.str (hQ "_law_pool") 466) (Value.ref 203)), (DictEntry.mk (PyData.keyHash p (hQ "_law_take")) (Value.str (hQ "_law_take") 475) (Value.ref 210)), (DictEntry.mk (PyData.keyHash p (hQ "_law_one")) (Value.str (hQ "_law_one") 483) (Value.ref 217)), (DictEntry.mk (PyData.keyHash p (hQ "_law_octets")) (Value.str (hQ "_law_octets") 489) (Value.ref 222)), (DictEntry.mk (PyData.keyHash p (hQ "_law_bridge")) (Value.str (hQ "_law_bridge") 496) (Value.ref 229)), (DictEntry.mk (PyData.keyHash p (hQ "_law_vector")) (Value.str (hQ "_law_vector") 504) (Value.ref 236)), (DictEntry.mk (PyData.keyHash p (hQ "_law_vector_right")) (Value.str (hQ "_law_vector_right") 516) (Value.ref 243)), (DictEntry.mk (PyData.keyHash p (hQ "_law_times_right")) (Value.str (hQ "_law_times_right") 522) (Value.ref 248)), (DictEntry.mk (PyData.keyHash p (hQ "_law_is_refused")) (Value.str (hQ "_law_is_refused") 529) (Value.ref 255)), (DictEntry.mk (PyData.keyHash p (hQ "_law_check_right")) (Value.str (hQ "_law_check_right") 543) (Value.ref 262)), (DictEntry.mk (PyData.keyHash p (hQ "_law_vector_refused")) (Value.str (hQ "_law_vector_refused") 550) (Value.ref 269)), (DictEntry.mk (PyData.keyHash p (hQ "_law_times_refused")) (Value.str (hQ "_law_times_refused") 559) (Value.ref 276)), (DictEntry.mk (PyData.keyHash p (hQ "_law_wrong")) (Value.str (hQ "_law_wrong") 567) (Value.ref 283)), (DictEntry.mk (PyData.keyHash p (hQ "law")) (Value.str (hQ "law") 579) (Value.ref 290))] 40) #[])
noncomputable def j84 (p : Params) : Obj := (Obj.mk Value.none none (Data.fields #[(Value.int (2 : Int) 0), (Value.int (0 : Int) 0), (Value.ref 20), (Value.int (7 : Int) 0), (Value.int (0 : Int) 0), (Value.ref 40), (Value.int (12 : Int) 0), (Value.int (0 : Int) 0), (Value.ref 58), (Value.int (25 : Int) 0), (Value.int (0 : Int) 0), (Value.ref 93), (Value.int (52 : Int) 0), (Value.int (0 : Int) 0), (Value.ref 127), (Value.int (56 : Int) 0), (Value.int (0 : Int) 0), (Value.ref 134), (Value.int (61 : Int) 0), (Value.int (0 : Int) 0), (Value.ref 141), (Value.int (63 : Int) 0), (Value.int (0 : Int) 0), (Value.ref 148), (Value.int (68 : Int) 0), (Value.int (0 : Int) 0), (Value.ref 155), (Value.int (71 : Int) 0), (Value.int (0 : Int) 0), (Value.ref 162), (Value.int (76 : Int) 0), (Value.int (0 : Int) 0), (Value.ref 169), (Value.int (81 : Int) 0), (Value.int (0 : Int) 0), (Value.ref 176), (Value.int (83 : Int) 0), (Value.int (0 : Int) 0), (Value.ref 183), (Value.int (86 : Int) 0), (Value.int (0 : Int) 0), (Value.ref 190), (Value.int (88 : Int) 0), (Value.int (0 : Int) 0), (Value.ref 195), (Value.int (92 : Int) 0), (Value.int (0 : Int) 0), (Value.ref 202), (Value.int (96 : Int) 0), (Value.int (0 : Int) 0), (Value.ref 209), (Value.int (103 : Int) 0), (Value.int (0 : Int) 0), (Value.ref 216), (Value.int (105 : Int) 0), (Value.int (0 : Int) 0), (Value.ref 221), (Value.int (107 : Int) 0), (Value.int (0 : Int) 0), (Value.ref 228), (Value.int (109 : Int) 0), (Value.int (0 : Int) 0), (Value.ref 235), (Value.int (112 : Int) 0), (Value.int (0 : Int) 0), (Value.ref 242), (Value.int (118 : Int) 0), (Value.int (0 : Int) 0), (Value.ref 247), (Value.int (130 : Int) 0), (Value.int (0 : Int) 0), (Value.ref 254), (Value.int (136 : Int) 0), (Value.int (0 : Int) 0), (Value.ref 261), (Value.int (146 : Int) 0), (Value.int (0 : Int) 0), (Value.ref 268), (Value.int (152 : Int) 0), (Value.int (0 : Int) 0), (Value.ref 275), (Value.int (160 : Int) 0), (Value.int (0 : Int) 0), (Value.ref 282), (Value.int (166 : Int) 0), (Value.int (0 : Int) 0), (Value.ref 289)]) #[])
noncomputable def j85 (p : Params) : Obj := (Obj.mk Value.none none (Data.func (FuncData.mk (hQ "number_octets") (hQ "number_octets") (hA (bE.drop 8)) (FuncBody.stmts (hB (bE.drop 8))) (hC (bE.drop 8)) 0 [] Value.none Value.none Value.none Value.none none Value.none Value.none 0)) #[])
noncomputable def j86 (p : Params) : Obj := (Obj.mk (Value.type "code") none (Data.fields #[(Value.str (hQ "number_octets") 370), (Value.str (hQ "number_octets") 371), (Value.str (hQ "/claim/cut.py") 372), (Value.int (52 : Int) 0), (Value.int (2 : Int) 0), (Value.int (0 : Int) 0), (Value.int (0 : Int) 0), (Value.int (3 : Int) 0), (Value.ref 124), (Value.bool Bool.true), (Value.int (181 : Int) 0), (Value.ref 125), Value.none, Value.none, Value.none, (Value.ref 126), (Value.int (373 : Int) 0), (Value.int (52 : Int) 0), (Value.str (hQ "/claim/cut.py") 374)]) #[])
noncomputable def j87 (p : Params) : Obj := (Obj.mk (Value.type "function") none (Data.func (FuncData.mk (hQ "number_octets") (hQ "number_octets") (hA (bE.drop 8)) (FuncBody.stmts (hB (bE.drop 8))) (hC (bE.drop 8)) 3 [] Value.none Value.none Value.none (Value.str (hQ "switchloom.bpdus") 234) none (Value.ref 127) Value.none 0)) #[])
noncomputable def j88 (p : Params) : Obj := (Obj.mk (Value.type "tuple") none (Data.seq #[(Value.str (hQ "octets") 379), (Value.str (hQ "found") 380), (Value.str (hQ "octet") 381)] 0) #[])
noncomputable def j89 (p : Params) : Obj := (Obj.mk Value.none none (Data.func (FuncData.mk (hQ "octets_number") (hQ "octets_number") (hA (bE.drop 9)) (FuncBody.stmts (hB (bE.drop 9))) (hC (bE.drop 9)) 0 [] Value.none Value.none Value.none Value.none none Value.none Value.none 0)) #[])
noncomputable def j90 (p : Params) : Obj := (Obj.mk (Value.type "code") none (Data.fields #[(Value.str (hQ "octets_number") 376), (Value.str (hQ "octets_number") 377), (Value.str (hQ "/claim/cut.py") 378), (Value.int (56 : Int) 0), (Value.int (1 : Int) 0), (Value.int (0 : Int) 0), (Value.int (0 : Int) 0), (Value.int (3 : Int) 0), (Value.ref 129), (Value.bool Bool.true), (Value.int (181 : Int) 0), (Value.ref 130), Value.none, (Value.ref 131), (Value.ref 132), (Value.ref 133), (Value.int (382 : Int) 0), (Value.int (56 : Int) 0), (Value.str (hQ "/claim/cut.py") 383)]) #[])
noncomputable def j91 (p : Params) : Obj := (Obj.mk (Value.type "function") none (Data.func (FuncData.mk (hQ "octets_number") (hQ "octets_number") (hA (bE.drop 9)) (FuncBody.stmts (hB (bE.drop 9))) (hC (bE.drop 9)) 3 [] Value.none Value.none Value.none (Value.str (hQ "switchloom.bpdus") 234) none (Value.ref 134) Value.none 0)) #[])
noncomputable def j92 (p : Params) : Obj := (Obj.mk (Value.type "tuple") none (Data.seq #[(Value.str (hQ "bridge") 388)] 0) #[])
noncomputable def j93 (p : Params) : Obj := (Obj.mk Value.none none (Data.func (FuncData.mk (hQ "bridge_octets") (hQ "bridge_octets") (hA (bE.drop 10)) (FuncBody.stmts (hB (bE.drop 10))) (hC (bE.drop 10)) 0 [] Value.none Value.none Value.none Value.none none Value.none Value.none 0)) #[])
noncomputable def j94 (p : Params) : Obj := (Obj.mk (Value.type "code") none (Data.fields #[(Value.str (hQ "bridge_octets") 385), (Value.str (hQ "bridge_octets") 386), (Value.str (hQ "/claim/cut.py") 387), (Value.int (61 : Int) 0), (Value.int (1 : Int) 0), (Value.int (0 : Int) 0), (Value.int (0 : Int) 0), (Value.int (3 : Int) 0), (Value.ref 136), (Value.bool Bool.true), (Value.int (181 : Int) 0), (Value.ref 137), Value.none, (Value.ref 138), (Value.ref 139), (Value.ref 140), (Value.int (389 : Int) 0), (Value.int (61 : Int) 0), (Value.str (hQ "/claim/cut.py") 390)]) #[])
noncomputable def j95 (p : Params) : Obj := (Obj.mk (Value.type "function") none (Data.func (FuncData.mk (hQ "bridge_octets") (hQ "bridge_octets") (hA (bE.drop 10)) (FuncBody.stmts (hB (bE.drop 10))) (hC (bE.drop 10)) 3 [] Value.none Value.none Value.none (Value.str (hQ "switchloom.bpdus") 234) none (Value.ref 141) Value.none 0)) #[])
noncomputable def j96 (p : Params) : Obj := (Obj.mk (Value.type "tuple") none (Data.seq #[(Value.str (hQ "port_id") 395), (Value.str (hQ "priority") 396), (Value.str (hQ "number") 397)] 0) #[])
noncomputable def j97 (p : Params) : Obj := (Obj.mk Value.none none (Data.func (FuncData.mk (hQ "port_octets") (hQ "port_octets") (hA (bE.drop 11)) (FuncBody.stmts (hB (bE.drop 11))) (hC (bE.drop 11)) 0 [] Value.none Value.none Value.none Value.none none Value.none Value.none 0)) #[])
noncomputable def j98 (p : Params) : Obj := (Obj.mk (Value.type "code") none (Data.fields #[(Value.str (hQ "port_octets") 392), (Value.str (hQ "port_octets") 393), (Value.str (hQ "/claim/cut.py") 394), (Value.int (63 : Int) 0), (Value.int (1 : Int) 0), (Value.int (0 : Int) 0), (Value.int (0 : Int) 0), (Value.int (3 : Int) 0), (Value.ref 143), (Value.bool Bool.true), (Value.int (181 : Int) 0), (Value.ref 144), Value.none, (Value.ref 145), (Value.ref 146), (Value.ref 147), (Value.int (398 : Int) 0), (Value.int (63 : Int) 0), (Value.str (hQ "/claim/cut.py") 399)]) #[])
noncomputable def j99 (p : Params) : Obj := (Obj.mk (Value.type "function") none (Data.func (FuncData.mk (hQ "port_octets") (hQ "port_octets") (hA (bE.drop 11)) (FuncBody.stmts (hB (bE.drop 11))) (hC (bE.drop 11)) 3 [] Value.none Value.none Value.none (Value.str (hQ "switchloom.bpdus") 234) none (Value.ref 148) Value.none 0)) #[])
noncomputable def j100 (p : Params) : Obj := (Obj.mk (Value.type "tuple") none (Data.seq #[(Value.str (hQ "vector") 404), (Value.str (hQ "root") 405), (Value.str (hQ "cost") 406), (Value.str (hQ "bridge") 407), (Value.str (hQ "port_id") 408)] 0) #[])
noncomputable def j101 (p : Params) : Obj := (Obj.mk Value.none none (Data.func (FuncData.mk (hQ "vector_octets") (hQ "vector_octets") (hA (bE.drop 12)) (FuncBody.stmts (hB (bE.drop 12))) (hC (bE.drop 12)) 0 [] Value.none Value.none Value.none Value.none none Value.none Value.none 0)) #[])
noncomputable def j102 (p : Params) : Obj := (Obj.mk (Value.type "code") none (Data.fields #[(Value.str (hQ "vector_octets") 401), (Value.str (hQ "vector_octets") 402), (Value.str (hQ "/claim/cut.py") 403), (Value.int (68 : Int) 0), (Value.int (1 : Int) 0), (Value.int (0 : Int) 0), (Value.int (0 : Int) 0), (Value.int (3 : Int) 0), (Value.ref 150), (Value.bool Bool.true), (Value.int (181 : Int) 0), (Value.ref 151), Value.none, (Value.ref 152), (Value.ref 153), (Value.ref 154), (Value.int (409 : Int) 0), (Value.int (68 : Int) 0), (Value.str (hQ "/claim/cut.py") 410)]) #[])
noncomputable def j103 (p : Params) : Obj := (Obj.mk (Value.type "function") none (Data.func (FuncData.mk (hQ "vector_octets") (hQ "vector_octets") (hA (bE.drop 12)) (FuncBody.stmts (hB (bE.drop 12))) (hC (bE.drop 12)) 3 [] Value.none Value.none Value.none (Value.str (hQ "switchloom.bpdus") 234) none (Value.ref 155) Value.none 0)) #[])
noncomputable def j104 (p : Params) : Obj := (Obj.mk (Value.type "tuple") none (Data.seq #[(Value.str (hQ "times") 415), (Value.str (hQ "found") 416), (Value.str (hQ "worth") 417)] 0) #[])
noncomputable def j105 (p : Params) : Obj := (Obj.mk Value.none none (Data.func (FuncData.mk (hQ "times_octets") (hQ "times_octets") (hA (bE.drop 13)) (FuncBody.stmts (hB (bE.drop 13))) (hC (bE.drop 13)) 0 [] Value.none Value.none Value.none Value.none none Value.none Value.none 0)) #[])
noncomputable def j106 (p : Params) : Obj := (Obj.mk (Value.type "code") none (Data.fields #[(Value.str (hQ "times_octets") 412), (Value.str (hQ "times_octets") 413), (Value.str (hQ "/claim/cut.py") 414), (Value.int (71 : Int) 0), (Value.int (1 : Int) 0), (Value.int (0 : Int) 0), (Value.int (0 : Int) 0), (Value.int (3 : Int) 0), (Value.ref 157), (Value.bool Bool.true), (Value.int (181 : Int) 0), (Value.ref 158), Value.none, (Value.ref 159), (Value.ref 160), (Value.ref 161), (Value.int (418 : Int) 0), (Value.int (71 : Int) 0), (Value.str (hQ "/claim/cut.py") 419)]) #[])
noncomputable def j107 (p : Params) : Obj := (Obj.mk (Value.type "function") none (Data.func (FuncData.mk (hQ "times_octets") (hQ "times_octets") (hA (bE.drop 13)) (FuncBody.stmts (hB (bE.drop 13))) (hC (bE.drop 13)) 3 [] Value.none Value.none Value.none (Value.str (hQ "switchloom.bpdus") 234) none (Value.ref 162) Value.none 0)) #[])
noncomputable def j108 (p : Params) : Obj := (Obj.mk (Value.type "tuple") none (Data.seq #[(Value.str (hQ "bpdu") 424)] 0) #[])
noncomputable def j109 (p : Params) : Obj := (Obj.mk Value.none none (Data.func (FuncData.mk (hQ "check_bpdu") (hQ "check_bpdu") (hA (bE.drop 14)) (FuncBody.stmts (hB (bE.drop 14))) (hC (bE.drop 14)) 0 [] Value.none Value.none Value.none Value.none none Value.none Value.none 0)) #[])
noncomputable def j110 (p : Params) : Obj := (Obj.mk (Value.type "code") none (Data.fields #[(Value.str (hQ "check_bpdu") 421), (Value.str (hQ "check_bpdu") 422), (Value.str (hQ "/claim/cut.py") 423), (Value.int (76 : Int) 0), (Value.int (1 : Int) 0), (Value.int (0 : Int) 0), (Value.int (0 : Int) 0), (Value.int (3 : Int) 0), (Value.ref 164), (Value.bool Bool.true), (Value.int (181 : Int) 0), (Value.ref 165), Value.none, (Value.ref 166), (Value.ref 167), (Value.ref 168), (Value.int (425 : Int) 0), (Value.int (76 : Int) 0), (Value.str (hQ "/claim/cut.py") 426)]) #[])
noncomputable def j111 (p : Params) : Obj := (Obj.mk (Value.type "function") none (Data.func (FuncData.mk (hQ "check_bpdu") (hQ "check_bpdu") (hA (bE.drop 14)) (FuncBody.stmts (hB (bE.drop 14))) (hC (bE.drop 14)) 3 [] Value.none Value.none Value.none (Value.str (hQ "switchloom.bpdus") 234) none (Value.ref 169) Value.none 0)) #[])
noncomputable def j112 (p : Params) : Obj := (Obj.mk (Value.type "tuple") none (Data.seq #[(Value.str (hQ "octets") 431)] 0) #[])
noncomputable def j113 (p : Params) : Obj := (Obj.mk Value.none none (Data.func (FuncData.mk (hQ "read_bridge") (hQ "read_bridge") (hA (bE.drop 15)) (FuncBody.stmts (hB (bE.drop 15))) (hC (bE.drop 15)) 0 [] Value.none Value.none Value.none Value.none none Value.none Value.none 0)) #[])
noncomputable def j114 (p : Params) : Obj := (Obj.mk (Value.type "code") none (Data.fields #[(Value.str (hQ "read_bridge") 428), (Value.str (hQ "read_bridge") 429), (Value.str (hQ "/claim/cut.py") 430), (Value.int (81 : Int) 0), (Value.int (1 : Int) 0), (Value.int (0 : Int) 0), (Value.int (0 : Int) 0), (Value.int (3 : Int) 0), (Value.ref 171), (Value.bool Bool.true), (Value.int (181 : Int) 0), (Value.ref 172), Value.none, (Value.ref 173), (Value.ref 174), (Value.ref 175), (Value.int (432 : Int) 0), (Value.int (81 : Int) 0), (Value.str (hQ "/claim/cut.py") 433)]) #[])
noncomputable def j115 (p : Params) : Obj := (Obj.mk (Value.type "function") none (Data.func (FuncData.mk (hQ "read_bridge") (hQ "read_bridge") (hA (bE.drop 15)) (FuncBody.stmts (hB (bE.drop 15))) (hC (bE.drop 15)) 3 [] Value.none Value.none Value.none (Value.str (hQ "switchloom.bpdus") 234) none (Value.ref 176) Value.none 0)) #[])
noncomputable def j116 (p : Params) : Obj := (Obj.mk (Value.type "tuple") none (Data.seq #[(Value.str (hQ "octets") 438), (Value.str (hQ "worth") 439)] 0) #[])
noncomputable def j117 (p : Params) : Obj := (Obj.mk Value.none none (Data.func (FuncData.mk (hQ "read_port") (hQ "read_port") (hA (bE.drop 16)) (FuncBody.stmts (hB (bE.drop 16))) (hC (bE.drop 16)) 0 [] Value.none Value.none Value.none Value.none none Value.none Value.none 0)) #[])
noncomputable def j118 (p : Params) : Obj := (Obj.mk (Value.type "code") none (Data.fields #[(Value.str (hQ "read_port") 435), (Value.str (hQ "read_port") 436), (Value.str (hQ "/claim/cut.py") 437), (Value.int (83 : Int) 0), (Value.int (1 : Int) 0), (Value.int (0 : Int) 0), (Value.int (0 : Int) 0), (Value.int (3 : Int) 0), (Value.ref 178), (Value.bool Bool.true), (Value.int (181 : Int) 0), (Value.ref 179), Value.none, (Value.ref 180), (Value.ref 181), (Value.ref 182), (Value.int (440 : Int) 0), (Value.int (83 : Int) 0), (Value.str (hQ "/claim/cut.py") 441)]) #[])
noncomputable def j119 (p : Params) : Obj := (Obj.mk (Value.type "function") none (Data.func (FuncData.mk (hQ "read_port") (hQ "read_port") (hA (bE.drop 16)) (FuncBody.stmts (hB (bE.drop 16))) (hC (bE.drop 16)) 3 [] Value.none Value.none Value.none (Value.str (hQ "switchloom.bpdus") 234) none (Value.ref 183) Value.none 0)) #[])
noncomputable def j120 (p : Params) : Obj := (Obj.mk (Value.type "tuple") none (Data.seq #[(Value.str (hQ "octets") 446)] 0) #[])
noncomputable def j121 (p : Params) : Obj := (Obj.mk Value.none none (Data.func (FuncData.mk (hQ "read_vector") (hQ "read_vector") (hA (bE.drop 17)) (FuncBody.stmts (hB (bE.drop 17))) (hC (bE.drop 17)) 0 [] Value.none Value.none Value.none Value.none none Value.none Value.none 0)) #[])
noncomputable def j122 (p : Params) : Obj := (Obj.mk (Value.type "code") none (Data.fields #[(Value.str (hQ "read_vector") 443), (Value.str (hQ "read_vector") 444), (Value.str (hQ "/claim/cut.py") 445), (Value.int (86 : Int) 0), (Value.int (1 : Int) 0), (Value.int (0 : Int) 0), (Value.int (0 : Int) 0), (Value.int (3 : Int) 0), (Value.ref 185), (Value.bool Bool.true), (Value.int (181 : Int) 0), (Value.ref 186), Value.none, (Value.ref 187), (Value.ref 188), (Value.ref 189), (Value.int (447 : Int) 0), (Value.int (86 : Int) 0), (Value.str (hQ "/claim/cut.py") 448)]) #[])
noncomputable def j123 (p : Params) : Obj := (Obj.mk (Value.type "function") none (Data.func (FuncData.mk (hQ "read_vector") (hQ "read_vector") (hA (bE.drop 17)) (FuncBody.stmts (hB (bE.drop 17))) (hC (bE.drop 17)) 3 [] Value.none Value.none Value.none (Value.str (hQ "switchloom.bpdus") 234) none (Value.ref 190) Value.none 0)) #[])
noncomputable def j124 (p : Params) : Obj := (Obj.mk Value.none none (Data.func (FuncData.mk (hQ "read_times") (hQ "read_times") (hA (bE.drop 18)) (FuncBody.stmts (hB (bE.drop 18))) (hC (bE.drop 18)) 0 [] Value.none Value.none Value.none Value.none none Value.none Value.none 0)) #[])
noncomputable def j125 (p : Params) : Obj := (Obj.mk (Value.type "code") none (Data.fields #[(Value.str (hQ "read_times") 450), (Value.str (hQ "read_times") 451), (Value.str (hQ "/claim/cut.py") 452), (Value.int (88 : Int) 0), (Value.int (1 : Int) 0), (Value.int (0 : Int) 0), (Value.int (0 : Int) 0), (Value.int (3 : Int) 0), (Value.ref 192), (Value.bool Bool.true), (Value.int (181 : Int) 0), (Value.ref 193), Value.none, Value.none, Value.none, (Value.ref 194), (Value.int (453 : Int) 0), (Value.int (88 : Int) 0), (Value.str (hQ "/claim/cut.py") 454)]) #[])
noncomputable def j126 (p : Params) : Obj := (Obj.mk (Value.type "function") none (Data.func (FuncData.mk (hQ "read_times") (hQ "read_times") (hA (bE.drop 18)) (FuncBody.stmts (hB (bE.drop 18))) (hC (bE.drop 18)) 3 [] Value.none Value.none Value.none (Value.str (hQ "switchloom.bpdus") 234) none (Value.ref 195) Value.none 0)) #[])
noncomputable def j127 (p : Params) : Obj := (Obj.mk (Value.type "tuple") none (Data.seq #[(Value.str (hQ "script") 461), (Value.str (hQ "script_cell") 462), (Value.str (hQ "large") 463)] 0) #[])
noncomputable def j128 (p : Params) : Obj := (Obj.mk Value.none none (Data.func (FuncData.mk (hQ "_law_pool") (hQ "_law_pool") (hA (bE.drop 20)) (FuncBody.stmts (hB (bE.drop 20))) (hC (bE.drop 20)) 0 [] Value.none Value.none Value.none Value.none none Value.none Value.none 0)) #[])
noncomputable def j129 (p : Params) : Obj := (Obj.mk (Value.type "code") none (Data.fields #[(Value.str (hQ "_law_pool") 458), (Value.str (hQ "_law_pool") 459), (Value.str (hQ "/claim/cut.py") 460), (Value.int (92 : Int) 0), (Value.int (1 : Int) 0), (Value.int (0 : Int) 0), (Value.int (0 : Int) 0), (Value.int (3 : Int) 0), (Value.ref 197), (Value.bool Bool.true), (Value.int (181 : Int) 0), (Value.ref 198), Value.none, (Value.ref 199), (Value.ref 200), (Value.ref 201), (Value.int (464 : Int) 0), (Value.int (92 : Int) 0), (Value.str (hQ "/claim/cut.py") 465)]) #[])
noncomputable def j130 (p : Params) : Obj := (Obj.mk (Value.type "function") none (Data.func (FuncData.mk (hQ "_law_pool") (hQ "_law_pool") (hA (bE.drop 20)) (FuncBody.stmts (hB (bE.drop 20))) (hC (bE.drop 20)) 3 [] Value.none Value.none Value.none (Value.str (hQ "law_xm0978_01") 456) none (Value.ref 202) Value.none 0)) #[])
noncomputable def j131 (p : Params) : Obj := (Obj.mk (Value.type "tuple") none (Data.seq #[(Value.str (hQ "source") 470), (Value.str (hQ "top") 471), (Value.str (hQ "digit") 472)] 0) #[])
noncomputable def j132 (p : Params) : Obj := (Obj.mk Value.none none (Data.func (FuncData.mk (hQ "_law_take") (hQ "_law_take") (hA (bE.drop 21)) (FuncBody.stmts (hB (bE.drop 21))) (hC (bE.drop 21)) 0 [] Value.none Value.none Value.none Value.none none Value.none Value.none 0)) #[])
noncomputable def j133 (p : Params) : Obj := (Obj.mk (Value.type "code") none (Data.fields #[(Value.str (hQ "_law_take") 467), (Value.str (hQ "_law_take") 468), (Value.str (hQ "/claim/cut.py") 469), (Value.int (96 : Int) 0), (Value.int (2 : Int) 0), (Value.int (0 : Int) 0), (Value.int (0 : Int) 0), (Value.int (3 : Int) 0), (Value.ref 204), (Value.bool Bool.true), (Value.int (181 : Int) 0), (Value.ref 205), Value.none, (Value.ref 206), (Value.ref 207), (Value.ref 208), (Value.int (473 : Int) 0), (Value.int (96 : Int) 0), (Value.str (hQ "/claim/cut.py") 474)]) #[])
noncomputable def j134 (p : Params) : Obj := (Obj.mk (Value.type "function") none (Data.func (FuncData.mk (hQ "_law_take") (hQ "_law_take") (hA (bE.drop 21)) (FuncBody.stmts (hB (bE.drop 21))) (hC (bE.drop 21)) 3 [] Value.none Value.none Value.none (Value.str (hQ "law_xm0978_01") 456) none (Value.ref 209) Value.none 0)) #[])
noncomputable def j135 (p : Params) : Obj := (Obj.mk (Value.type "tuple") none (Data.seq #[(Value.str (hQ "source") 479), (Value.str (hQ "things") 480)] 0) #[])
noncomputable def j136 (p : Params) : Obj := (Obj.mk Value.none none (Data.func (FuncData.mk (hQ "_law_one") (hQ "_law_one") (hA (bE.drop 22)) (FuncBody.stmts (hB (bE.drop 22))) (hC (bE.drop 22)) 0 [] Value.none Value.none Value.none Value.none none Value.none Value.none 0)) #[])
noncomputable def j137 (p : Params) : Obj := (Obj.mk (Value.type "code") none (Data.fields #[(Value.str (hQ "_law_one") 476), (Value.str (hQ "_law_one") 477), (Value.str (hQ "/claim/cut.py") 478), (Value.int (103 : Int) 0), (Value.int (2 : Int) 0), (Value.int (0 : Int) 0), (Value.int (0 : Int) 0), (Value.int (3 : Int) 0), (Value.ref 211), (Value.bool Bool.true), (Value.int (181 : Int) 0), (Value.ref 212), Value.none, (Value.ref 213), (Value.ref 214), (Value.ref 215), (Value.int (481 : Int) 0), (Value.int (103 : Int) 0), (Value.str (hQ "/claim/cut.py") 482)]) #[])
noncomputable def j138 (p : Params) : Obj := (Obj.mk (Value.type "function") none (Data.func (FuncData.mk (hQ "_law_one") (hQ "_law_one") (hA (bE.drop 22)) (FuncBody.stmts (hB (bE.drop 22))) (hC (bE.drop 22)) 3 [] Value.none Value.none Value.none (Value.str (hQ "law_xm0978_01") 456) none (Value.ref 216) Value.none 0)) #[])
noncomputable def j139 (p : Params) : Obj := (Obj.mk Value.none none (Data.func (FuncData.mk (hQ "_law_octets") (hQ "_law_octets") (hA (bE.drop 23)) (FuncBody.stmts (hB (bE.drop 23))) (hC (bE.drop 23)) 0 [] Value.none Value.none Value.none Value.none none Value.none Value.none 0)) #[])
noncomputable def j140 (p : Params) : Obj := (Obj.mk (Value.type "code") none (Data.fields #[(Value.str (hQ "_law_octets") 484), (Value.str (hQ "_law_octets") 485), (Value.str (hQ "/claim/cut.py") 486), (Value.int (105 : Int) 0), (Value.int (2 : Int) 0), (Value.int (0 : Int) 0), (Value.int (0 : Int) 0), (Value.int (3 : Int) 0), (Value.ref 218), (Value.bool Bool.true), (Value.int (181 : Int) 0), (Value.ref 219), Value.none, Value.none, Value.none, (Value.ref 220), (Value.int (487 : Int) 0), (Value.int (105 : Int) 0), (Value.str (hQ "/claim/cut.py") 488)]) #[])
noncomputable def j141 (p : Params) : Obj := (Obj.mk (Value.type "function") none (Data.func (FuncData.mk (hQ "_law_octets") (hQ "_law_octets") (hA (bE.drop 23)) (FuncBody.stmts (hB (bE.drop 23))) (hC (bE.drop 23)) 3 [] Value.none Value.none Value.none (Value.str (hQ "law_xm0978_01") 456) none (Value.ref 221) Value.none 0)) #[])
noncomputable def j142 (p : Params) : Obj := (Obj.mk (Value.type "tuple") none (Data.seq #[(Value.str (hQ "source") 493)] 0) #[])
noncomputable def j143 (p : Params) : Obj := (Obj.mk Value.none none (Data.func (FuncData.mk (hQ "_law_bridge") (hQ "_law_bridge") (hA (bE.drop 24)) (FuncBody.stmts (hB (bE.drop 24))) (hC (bE.drop 24)) 0 [] Value.none Value.none Value.none Value.none none Value.none Value.none 0)) #[])
noncomputable def j144 (p : Params) : Obj := (Obj.mk (Value.type "code") none (Data.fields #[(Value.str (hQ "_law_bridge") 490), (Value.str (hQ "_law_bridge") 491), (Value.str (hQ "/claim/cut.py") 492), (Value.int (107 : Int) 0), (Value.int (1 : Int) 0), (Value.int (0 : Int) 0), (Value.int (0 : Int) 0), (Value.int (3 : Int) 0), (Value.ref 223), (Value.bool Bool.true), (Value.int (181 : Int) 0), (Value.ref 224), Value.none, (Value.ref 225), (Value.ref 226), (Value.ref 227), (Value.int (494 : Int) 0), (Value.int (107 : Int) 0), (Value.str (hQ "/claim/cut.py") 495)]) #[])
noncomputable def j145 (p : Params) : Obj := (Obj.mk (Value.type "function") none (Data.func (FuncData.mk (hQ "_law_bridge") (hQ "_law_bridge") (hA (bE.drop 24)) (FuncBody.stmts (hB (bE.drop 24))) (hC (bE.drop 24)) 3 [] Value.none Value.none Value.none (Value.str (hQ "law_xm0978_01") 456) none (Value.ref 228) Value.none 0)) #[])
noncomputable def j146 (p : Params) : Obj := (Obj.mk (Value.type "tuple") none (Data.seq #[(Value.str (hQ "source") 500), (Value.str (hQ "cost") 501)] 0) #[])
noncomputable def j147 (p : Params) : Obj := (Obj.mk Value.none none (Data.func (FuncData.mk (hQ "_law_vector") (hQ "_law_vector") (hA (bE.drop 25)) (FuncBody.stmts (hB (bE.drop 25))) (hC (bE.drop 25)) 0 [] Value.none Value.none Value.none Value.none none Value.none Value.none 0)) #[])
noncomputable def j148 (p : Params) : Obj := (Obj.mk (Value.type "code") none (Data.fields #[(Value.str (hQ "_law_vector") 497), (Value.str (hQ "_law_vector") 498), (Value.str (hQ "/claim/cut.py") 499), (Value.int (109 : Int) 0), (Value.int (1 : Int) 0), (Value.int (0 : Int) 0), (Value.int (0 : Int) 0), (Value.int (3 : Int) 0), (Value.ref 230), (Value.bool Bool.true), (Value.int (181 : Int) 0), (Value.ref 231), Value.none, (Value.ref 232), (Value.ref 233), (Value.ref 234), (Value.int (502 : Int) 0), (Value.int (109 : Int) 0), (Value.str (hQ "/claim/cut.py") 503)]) #[])
noncomputable def j149 (p : Params) : Obj := (Obj.mk (Value.type "function") none (Data.func (FuncData.mk (hQ "_law_vector") (hQ "_law_vector") (hA (bE.drop 25)) (FuncBody.stmts (hB (bE.drop 25))) (hC (bE.drop 25)) 3 [] Value.none Value.none Value.none (Value.str (hQ "law_xm0978_01") 456) none (Value.ref 235) Value.none 0)) #[])
noncomputable def j150 (p : Params) : Obj := (Obj.mk (Value.type "tuple") none (Data.seq #[(Value.str (hQ "vector") 508), (Value.str (hQ "root") 509), (Value.str (hQ "cost") 510), (Value.str (hQ "near") 511), (Value.str (hQ "told_port") 512), (Value.str (hQ "row") 513)] 0) #[])
noncomputable def j151 (p : Params) : Obj := (Obj.mk Value.none none (Data.func (FuncData.mk (hQ "_law_vector_right") (hQ "_law_vector_right") (hA (bE.drop 26)) (FuncBody.stmts (hB (bE.drop 26))) (hC (bE.drop 26)) 0 [] Value.none Value.none Value.none Value.none none Value.none Value.none 0)) #[])
noncomputable def j152 (p : Params) : Obj := (Obj.mk (Value.type "code") none (Data.fields #[(Value.str (hQ "_law_vector_right") 505), (Value.str (hQ "_law_vector_right") 506), (Value.str (hQ "/claim/cut.py") 507), (Value.int (112 : Int) 0), (Value.int (1 : Int) 0), (Value.int (0 : Int) 0), (Value.int (0 : Int) 0), (Value.int (3 : Int) 0), (Value.ref 237), (Value.bool Bool.true), (Value.int (181 : Int) 0), (Value.ref 238), Value.none, (Value.ref 239), (Value.ref 240), (Value.ref 241), (Value.int (514 : Int) 0), (Value.int (112 : Int) 0), (Value.str (hQ "/claim/cut.py") 515)]) #[])
noncomputable def j153 (p : Params) : Obj := (Obj.mk (Value.type "function") none (Data.func (FuncData.mk (hQ "_law_vector_right") (hQ "_law_vector_right") (hA (bE.drop 26)) (FuncBody.stmts (hB (bE.drop 26))) (hC (bE.drop 26)) 3 [] Value.none Value.none Value.none (Value.str (hQ "law_xm0978_01") 456) none (Value.ref 242) Value.none 0)) #[])
noncomputable def j154 (p : Params) : Obj := (Obj.mk Value.none none (Data.func (FuncData.mk (hQ "_law_times_right") (hQ "_law_times_right") (hA (bE.drop 27)) (FuncBody.stmts (hB (bE.drop 27))) (hC (bE.drop 27)) 0 [] Value.none Value.none Value.none Value.none none Value.none Value.none 0)) #[])
noncomputable def j155 (p : Params) : Obj := (Obj.mk (Value.type "code") none (Data.fields #[(Value.str (hQ "_law_times_right") 517), (Value.str (hQ "_law_times_right") 518), (Value.str (hQ "/claim/cut.py") 519), (Value.int (118 : Int) 0), (Value.int (1 : Int) 0), (Value.int (0 : Int) 0), (Value.int (0 : Int) 0), (Value.int (3 : Int) 0), (Value.ref 244), (Value.bool Bool.true), (Value.int (181 : Int) 0), (Value.ref 245), Value.none, Value.none, Value.none, (Value.ref 246), (Value.int (520 : Int) 0), (Value.int (118 : Int) 0), (Value.str (hQ "/claim/cut.py") 521)]) #[])
noncomputable def j156 (p : Params) : Obj := (Obj.mk (Value.type "function") none (Data.func (FuncData.mk (hQ "_law_times_right") (hQ "_law_times_right") (hA (bE.drop 27)) (FuncBody.stmts (hB (bE.drop 27))) (hC (bE.drop 27)) 3 [] Value.none Value.none Value.none (Value.str (hQ "law_xm0978_01") 456) none (Value.ref 247) Value.none 0)) #[])
noncomputable def j157 (p : Params) : Obj := (Obj.mk (Value.type "tuple") none (Data.seq #[(Value.str (hQ "told") 526)] 0) #[])
noncomputable def j158 (p : Params) : Obj := (Obj.mk Value.none none (Data.func (FuncData.mk (hQ "_law_is_refused") (hQ "_law_is_refused") (hA (bE.drop 28)) (FuncBody.stmts (hB (bE.drop 28))) (hC (bE.drop 28)) 0 [] Value.none Value.none Value.none Value.none none Value.none Value.none 0)) #[])
noncomputable def j159 (p : Params) : Obj := (Obj.mk (Value.type "code") none (Data.fields #[(Value.str (hQ "_law_is_refused") 523), (Value.str (hQ "_law_is_refused") 524), (Value.str (hQ "/claim/cut.py") 525), (Value.int (130 : Int) 0), (Value.int (1 : Int) 0), (Value.int (0 : Int) 0), (Value.int (0 : Int) 0), (Value.int (3 : Int) 0), (Value.ref 249), (Value.bool Bool.true), (Value.int (181 : Int) 0), (Value.ref 250), Value.none, (Value.ref 251), (Value.ref 252), (Value.ref 253), (Value.int (527 : Int) 0), (Value.int (130 : Int) 0), (Value.str (hQ "/claim/cut.py") 528)]) #[])
noncomputable def j160 (p : Params) : Obj := (Obj.mk (Value.type "function") none (Data.func (FuncData.mk (hQ "_law_is_refused") (hQ "_law_is_refused") (hA (bE.drop 28)) (FuncBody.stmts (hB (bE.drop 28))) (hC (bE.drop 28)) 3 [] Value.none Value.none Value.none (Value.str (hQ "law_xm0978_01") 456) none (Value.ref 254) Value.none 0)) #[])
noncomputable def j161 (p : Params) : Obj := (Obj.mk (Value.type "tuple") none (Data.seq #[(Value.str (hQ "source") 533), (Value.str (hQ "version") 534), (Value.str (hQ "kind") 535), (Value.str (hQ "vector") 536), (Value.str (hQ "times") 537), (Value.str (hQ "role") 538), (Value.str (hQ "tail") 539), (Value.str (hQ "due") 540)] 0) #[])
noncomputable def j162 (p : Params) : Obj := (Obj.mk Value.none none (Data.func (FuncData.mk (hQ "_law_check_right") (hQ "_law_check_right") (hA (bE.drop 29)) (FuncBody.stmts (hB (bE.drop 29))) (hC (bE.drop 29)) 0 [] Value.none Value.none Value.none Value.none none Value.none Value.none 0)) #[])
noncomputable def j163 (p : Params) : Obj := (Obj.mk (Value.type "code") none (Data.fields #[(Value.str (hQ "_law_check_right") 530), (Value.str (hQ "_law_check_right") 531), (Value.str (hQ "/claim/cut.py") 532), (Value.int (136 : Int) 0), (Value.int (3 : Int) 0), (Value.int (0 : Int) 0), (Value.int (0 : Int) 0), (Value.int (3 : Int) 0), (Value.ref 256), (Value.bool Bool.true), (Value.int (181 : Int) 0), (Value.ref 257), Value.none, (Value.ref 258), (Value.ref 259), (Value.ref 260), (Value.int (541 : Int) 0), (Value.int (136 : Int) 0), (Value.str (hQ "/claim/cut.py") 542)]) #[])
noncomputable def j164 (p : Params) : Obj := (Obj.mk (Value.type "function") none (Data.func (FuncData.mk (hQ "_law_check_right") (hQ "_law_check_right") (hA (bE.drop 29)) (FuncBody.stmts (hB (bE.drop 29))) (hC (bE.drop 29)) 3 [] Value.none Value.none Value.none (Value.str (hQ "law_xm0978_01") 456) none (Value.ref 261) Value.none 0)) #[])
noncomputable def j165 (p : Params) : Obj := (Obj.mk (Value.type "tuple") none (Data.seq #[(Value.str (hQ "vector") 547)] 0) #[])
noncomputable def j166 (p : Params) : Obj := (Obj.mk Value.none none (Data.func (FuncData.mk (hQ "_law_vector_refused") (hQ "_law_vector_refused") (hA (bE.drop 30)) (FuncBody.stmts (hB (bE.drop 30))) (hC (bE.drop 30)) 0 [] Value.none Value.none Value.none Value.none none Value.none Value.none 0)) #[])
noncomputable def j167 (p : Params) : Obj := (Obj.mk (Value.type "code") none (Data.fields #[(Value.str (hQ "_law_vector_refused") 544), (Value.str (hQ "_law_vector_refused") 545), (Value.str (hQ "/claim/cut.py") 546), (Value.int (146 : Int) 0), (Value.int (1 : Int) 0), (Value.int (0 : Int) 0), (Value.int (0 : Int) 0), (Value.int (3 : Int) 0), (Value.ref 263), (Value.bool Bool.true), (Value.int (181 : Int) 0), (Value.ref 264), Value.none, (Value.ref 265), (Value.ref 266), (Value.ref 267), (Value.int (548 : Int) 0), (Value.int (146 : Int) 0), (Value.str (hQ "/claim/cut.py") 549)]) #[])
noncomputable def j168 (p : Params) : Obj := (Obj.mk (Value.type "function") none (Data.func (FuncData.mk (hQ "_law_vector_refused") (hQ "_law_vector_refused") (hA (bE.drop 30)) (FuncBody.stmts (hB (bE.drop 30))) (hC (bE.drop 30)) 3 [] Value.none Value.none Value.none (Value.str (hQ "law_xm0978_01") 456) none (Value.ref 268) Value.none 0)) #[])
noncomputable def j169 (p : Params) : Obj := (Obj.mk (Value.type "tuple") none (Data.seq #[(Value.str (hQ "source") 554), (Value.str (hQ "four") 555), (Value.str (hQ "at") 556)] 0) #[])
noncomputable def j170 (p : Params) : Obj := (Obj.mk Value.none none (Data.func (FuncData.mk (hQ "_law_times_refused") (hQ "_law_times_refused") (hA (bE.drop 31)) (FuncBody.stmts (hB (bE.drop 31))) (hC (bE.drop 31)) 0 [] Value.none Value.none Value.none Value.none none Value.none Value.none 0)) #[])
noncomputable def j171 (p : Params) : Obj := (Obj.mk (Value.type "code") none (Data.fields #[(Value.str (hQ "_law_times_refused") 551), (Value.str (hQ "_law_times_refused") 552), (Value.str (hQ "/claim/cut.py") 553), (Value.int (152 : Int) 0), (Value.int (1 : Int) 0), (Value.int (0 : Int) 0), (Value.int (0 : Int) 0), (Value.int (3 : Int) 0), (Value.ref 270), (Value.bool Bool.true), (Value.int (181 : Int) 0), (Value.ref 271), Value.none, (Value.ref 272), (Value.ref 273), (Value.ref 274), (Value.int (557 : Int) 0), (Value.int (152 : Int) 0), (Value.str (hQ "/claim/cut.py") 558)]) #[])
noncomputable def j172 (p : Params) : Obj := (Obj.mk (Value.type "function") none (Data.func (FuncData.mk (hQ "_law_times_refused") (hQ "_law_times_refused") (hA (bE.drop 31)) (FuncBody.stmts (hB (bE.drop 31))) (hC (bE.drop 31)) 3 [] Value.none Value.none Value.none (Value.str (hQ "law_xm0978_01") 456) none (Value.ref 275) Value.none 0)) #[])
noncomputable def j173 (p : Params) : Obj := (Obj.mk (Value.type "tuple") none (Data.seq #[(Value.str (hQ "near") 563), (Value.str (hQ "some") 564)] 0) #[])
noncomputable def j174 (p : Params) : Obj := (Obj.mk Value.none none (Data.func (FuncData.mk (hQ "_law_wrong") (hQ "_law_wrong") (hA (bE.drop 32)) (FuncBody.stmts (hB (bE.drop 32))) (hC (bE.drop 32)) 0 [] Value.none Value.none Value.none Value.none none Value.none Value.none 0)) #[])
noncomputable def j175 (p : Params) : Obj := (Obj.mk (Value.type "code") none (Data.fields #[(Value.str (hQ "_law_wrong") 560), (Value.str (hQ "_law_wrong") 561), (Value.str (hQ "/claim/cut.py") 562), (Value.int (160 : Int) 0), (Value.int (0 : Int) 0), (Value.int (0 : Int) 0), (Value.int (0 : Int) 0), (Value.int (3 : Int) 0), (Value.ref 277), (Value.bool Bool.true), (Value.int (181 : Int) 0), (Value.ref 278), Value.none, (Value.ref 279), (Value.ref 280), (Value.ref 281), (Value.int (565 : Int) 0), (Value.int (160 : Int) 0), (Value.str (hQ "/claim/cut.py") 566)]) #[])
noncomputable def j176 (p : Params) : Obj := (Obj.mk (Value.type "function") none (Data.func (FuncData.mk (hQ "_law_wrong") (hQ "_law_wrong") (hA (bE.drop 32)) (FuncBody.stmts (hB (bE.drop 32))) (hC (bE.drop 32)) 3 [] Value.none Value.none Value.none (Value.str (hQ "law_xm0978_01") 456) none (Value.ref 282) Value.none 0)) #[])
noncomputable def j177 (p : Params) : Obj := (Obj.mk (Value.type "tuple") none (Data.seq #[(Value.str (hQ "script") 571), (Value.str (hQ "source") 572), (Value.str (hQ "turn") 573), (Value.str (hQ "version") 574), (Value.str (hQ "kind") 575), (Value.str (hQ "wrong") 576)] 0) #[])
noncomputable def j178 (p : Params) : Obj := (Obj.mk Value.none none (Data.func (FuncData.mk (hQ "law") (hQ "law") (hA (bE.drop 33)) (FuncBody.stmts (hB (bE.drop 33))) (hC (bE.drop 33)) 0 [] Value.none Value.none Value.none Value.none none Value.none Value.none 0)) #[])
noncomputable def j179 (p : Params) : Obj := (Obj.mk (Value.type "code") none (Data.fields #[(Value.str (hQ "law") 568), (Value.str (hQ "law") 569), (Value.str (hQ "/claim/cut.py") 570), (Value.int (166 : Int) 0), (Value.int (1 : Int) 0), (Value.int (0 : Int) 0), (Value.int (0 : Int) 0), (Value.int (3 : Int) 0), (Value.ref 284), (Value.bool Bool.true), (Value.int (181 : Int) 0), (Value.ref 285), Value.none, (Value.ref 286), (Value.ref 287), (Value.ref 288), (Value.int (577 : Int) 0), (Value.int (166 : Int) 0), (Value.str (hQ "/claim/cut.py") 578)]) #[])
noncomputable def j180 (p : Params) : Obj := (Obj.mk (Value.type "function") none (Data.func (FuncData.mk (hQ "law") (hQ "law") (hA (bE.drop 33)) (FuncBody.stmts (hB (bE.drop 33))) (hC (bE.drop 33)) 3 [] Value.none Value.none Value.none (Value.str (hQ "law_xm0978_01") 456) none (Value.ref 289) Value.none 0)) #[])
noncomputable def hpA (p : Params) : Heap := ⟨Array.mk [(boot_o_0 p), (boot_o_1 p), (boot_o_2 p), (boot_o_3 p), (boot_o_4 p), (boot_o_5 p), (boot_o_6 p), (boot_o_7 p), (boot_o_8 p), (boot_o_9 p), (boot_o_10 p), (boot_o_7 p), (boot_o_8 p), (j1 p), (j2 p)], (Life.mk [] [] [] 0 [] [] Bool.false #[] [] 0 Bool.false Bool.false Bool.false (0 : Int) [(2000 : Int), (10 : Int), (10 : Int)] Bool.false 0 Bool.true [] [] 0 Bool.false)⟩
noncomputable abbrev SA (w : World) (os : OsState) : Shared := ⟨hpA w.params, #[], (Drawn.mk 0 0 0 0), 187, os⟩
noncomputable def trB (p : Params) : BT := (.node (boot_o_0 p) (.node (boot_o_1 p) (.node (boot_o_3 p) (.node (boot_o_7 p) .nil .nil) (.node (boot_o_7 p) .nil .nil)) (.node (boot_o_5 p) (.node (boot_o_9 p) .nil .nil) (.node (j1 p) .nil .nil))) (.node (boot_o_2 p) (.node (boot_o_4 p) (.node (boot_o_8 p) .nil .nil) (.node (boot_o_8 p) .nil .nil)) (.node (boot_o_6 p) (.node (boot_o_10 p) .nil .nil) (.node (j2 p) .nil .nil))))
noncomputable abbrev TB (w : World) (os : OsState) : SharedT := ⟨trB w.params, 15, (Life.mk [] [] [] 0 [] [] Bool.false #[] [] 0 Bool.false Bool.false Bool.false (0 : Int) [(2000 : Int), (10 : Int), (10 : Int)] Bool.false 0 Bool.true [] [] 0 Bool.false), #[], (Drawn.mk 0 0 0 0), 187, os⟩
noncomputable def tr8 (p : Params) : BT := (.node (boot_o_0 p) (.node (boot_o_1 p) (.node (j4 p) (.node (boot_o_7 p) (.node (j6 p) (.node (j18 p) (.node (boot_o_7 p) .nil .nil) (.node (j63 p) .nil .nil)) (.node (j30 p) (.node (j50 p) .nil .nil) (.node (boot_o_8 p) .nil .nil))) (.node (boot_o_8 p) (.node (boot_o_8 p) (.node (j45 p) .nil .nil) (.node (boot_o_7 p) .nil .nil)) (.node (j36 p) (.node (j58 p) .nil .nil) (.node (j78 p) .nil .nil)))) (.node (boot_o_7 p) (.node (j9 p) (.node (j22 p) (.node (boot_o_7 p) .nil .nil) (.node (boot_o_7 p) .nil .nil)) (.node (j34 p) (.node (j54 p) .nil .nil) (.node (j74 p) .nil .nil))) (.node (j14 p) (.node (j26 p) (.node (boot_o_8 p) .nil .nil) (.node (j69 p) .nil .nil)) (.node (j39 p) (.node (boot_o_7 p) .nil .nil) (.node (j82 p) .nil .nil))))) (.node (boot_o_5 p) (.node (boot_o_9 p) (.node (j8 p) (.node (j20 p) (.node (j42 p) .nil .nil) (.node (boot_o_8 p) .nil .nil)) (.node (j32 p) (.node (j52 p) .nil .nil) (.node (boot_o_7 p) .nil .nil))) (.node (boot_o_7 p) (.node (j25 p) (.node (j47 p) .nil .nil) (.node (j68 p) .nil .nil)) (.node (j37 p) (.node (j7 p) .nil .nil) (.node (j80 p) .nil .nil)))) (.node (j1 p) (.node (j11 p) (.node (j23 p) (.node (j44 p) .nil .nil) (.node (j66 p) .nil .nil)) (.node (boot_o_7 p) (.node (j56 p) .nil .nil) (.node (j76 p) .nil .nil))) (.node (j16 p) (.node (j28 p) (.node (boot_o_7 p) .nil .nil) (.node (j71 p) .nil .nil)) (.node (boot_o_8 p) (.node (j61 p) .nil .nil) .nil))))) (.node (j3 p) (.node (boot_o_4 p) (.node (boot_o_8 p) (.node (j7 p) (.node (j19 p) (.node (j41 p) .nil .nil) (.node (boot_o_7 p) .nil .nil)) (.node (j31 p) (.node (j51 p) .nil .nil) (.node (j72 p) .nil .nil))) (.node (j12 p) (.node (j24 p) (.node (j46 p) .nil .nil) (.node (boot_o_8 p) .nil .nil)) (.node (boot_o_7 p) (.node (boot_o_7 p) .nil .nil) (.node (j79 p) .nil .nil)))) (.node (j5 p) (.node (j10 p) (.node (j7 p) (.node (boot_o_8 p) .nil .nil) (.node (j65 p) .nil .nil)) (.node (j35 p) (.node (j55 p) .nil .nil) (.node (j75 p) .nil .nil))) (.node (j15 p) (.node (j27 p) (.node (j48 p) .nil .nil) (.node (j70 p) .nil .nil)) (.node (boot_o_7 p) (.node (j60 p) .nil .nil) .nil)))) (.node (boot_o_6 p) (.node (boot_o_10 p) (.node (boot_o_7 p) (.node (j21 p) (.node (j43 p) .nil .nil) (.node (j64 p) .nil .nil)) (.node (j33 p) (.node (j53 p) .nil .nil) (.node (j73 p) .nil .nil))) (.node (j13 p) (.node (boot_o_7 p) (.node (boot_o_7 p) .nil .nil) (.node (boot_o_7 p) .nil .nil)) (.node (j38 p) (.node (j59 p) .nil .nil) (.node (j81 p) .nil .nil)))) (.node (j2 p) (.node (boot_o_7 p) (.node (boot_o_7 p) (.node (boot_o_7 p) .nil .nil) (.node (j67 p) .nil .nil)) (.node (j7 p) (.node (j57 p) .nil .nil) (.node (j77 p) .nil .nil))) (.node (j17 p) (.node (j29 p) (.node (j49 p) .nil .nil) (.node (boot_o_7 p) .nil .nil)) (.node (j40 p) (.node (j62 p) .nil .nil) .nil))))))
noncomputable abbrev T8 (w : World) (os : OsState) : SharedT := ⟨tr8 w.params, 124, (Life.mk [] [] [] 0 [] [] Bool.false #[] [] 0 Bool.false Bool.false Bool.false (0 : Int) [(2000 : Int), (10 : Int), (10 : Int)] Bool.false 0 Bool.true [] [] 0 Bool.false), #[], (Drawn.mk 0 0 0 0), 370, os⟩
noncomputable def tr34 (p : Params) : BT := (.node (boot_o_0 p) (.node (boot_o_1 p) (.node (j83 p) (.node (boot_o_7 p) (.node (j6 p) (.node (j18 p) (.node (boot_o_7 p) (.node (j86 p) (.node (j160 p) .nil .nil) .nil) (.node (j123 p) .nil .nil)) (.node (j63 p) (.node (j104 p) (.node (boot_o_7 p) .nil .nil) .nil) (.node (boot_o_7 p) .nil .nil))) (.node (j30 p) (.node (j50 p) (.node (boot_o_7 p) (.node (boot_o_8 p) .nil .nil) .nil) (.node (boot_o_7 p) .nil .nil)) (.node (boot_o_8 p) (.node (j113 p) .nil .nil) (.node (j150 p) .nil .nil)))) (.node (boot_o_8 p) (.node (boot_o_8 p) (.node (j45 p) (.node (j91 p) (.node (boot_o_7 p) .nil .nil) .nil) (.node (j127 p) .nil .nil)) (.node (boot_o_7 p) (.node (boot_o_7 p) .nil .nil) (.node (boot_o_8 p) .nil .nil))) (.node (j36 p) (.node (j58 p) (.node (boot_o_8 p) (.node (j173 p) .nil .nil) .nil) (.node (j136 p) .nil .nil)) (.node (j78 p) (.node (j118 p) .nil .nil) (.node (j155 p) .nil .nil))))) (.node (boot_o_7 p) (.node (j9 p) (.node (j22 p) (.node (boot_o_7 p) (.node (j88 p) (.node (boot_o_7 p) .nil .nil) .nil) (.node (j125 p) .nil .nil)) (.node (boot_o_7 p) (.node (j107 p) .nil .nil) (.node (j143 p) .nil .nil))) (.node (j34 p) (.node (j54 p) (.node (j97 p) (.node (j171 p) .nil .nil) .nil) (.node (boot_o_7 p) .nil .nil)) (.node (j74 p) (.node (boot_o_8 p) .nil .nil) (.node (j153 p) .nil .nil)))) (.node (j14 p) (.node (j26 p) (.node (boot_o_8 p) (.node (boot_o_7 p) (.node (j166 p) .nil .nil) .nil) (.node (j130 p) .nil .nil)) (.node (j69 p) (.node (boot_o_7 p) .nil .nil) (.node (j148 p) .nil .nil))) (.node (j39 p) (.node (boot_o_7 p) (.node (j102 p) (.node (j176 p) .nil .nil) .nil) (.node (boot_o_8 p) .nil .nil)) (.node (j82 p) (.node (j120 p) .nil .nil) (.node (j157 p) .nil .nil)))))) (.node (boot_o_5 p) (.node (boot_o_9 p) (.node (j8 p) (.node (j20 p) (.node (j42 p) (.node (boot_o_7 p) (.node (boot_o_8 p) .nil .nil) .nil) (.node (boot_o_8 p) .nil .nil)) (.node (boot_o_8 p) (.node (j105 p) (.node (j179 p) .nil .nil) .nil) (.node (j142 p) .nil .nil))) (.node (j32 p) (.node (j52 p) (.node (j96 p) (.node (boot_o_7 p) .nil .nil) .nil) (.node (j133 p) .nil .nil)) (.node (boot_o_7 p) (.node (j115 p) .nil .nil) (.node (j151 p) .nil .nil)))) (.node (boot_o_7 p) (.node (j25 p) (.node (j47 p) (.node (boot_o_8 p) (.node (j165 p) .nil .nil) .nil) (.node (j128 p) .nil .nil)) (.node (j68 p) (.node (j110 p) .nil .nil) (.node (boot_o_7 p) .nil .nil))) (.node (j37 p) (.node (j7 p) (.node (boot_o_7 p) (.node (j174 p) .nil .nil) .nil) (.node (j138 p) .nil .nil)) (.node (j80 p) (.node (boot_o_7 p) .nil .nil) (.node (boot_o_7 p) .nil .nil))))) (.node (j1 p) (.node (j11 p) (.node (j23 p) (.node (j44 p) (.node (j89 p) (.node (j163 p) .nil .nil) .nil) (.node (boot_o_7 p) .nil .nil)) (.node (j66 p) (.node (boot_o_8 p) .nil .nil) (.node (j145 p) .nil .nil))) (.node (boot_o_7 p) (.node (j56 p) (.node (j99 p) (.node (boot_o_7 p) .nil .nil) .nil) (.node (j135 p) .nil .nil)) (.node (j76 p) (.node (boot_o_7 p) .nil .nil) (.node (boot_o_8 p) .nil .nil)))) (.node (j16 p) (.node (j28 p) (.node (boot_o_7 p) (.node (j94 p) (.node (j168 p) .nil .nil) .nil) (.node (boot_o_8 p) .nil .nil)) (.node (j71 p) (.node (j112 p) .nil .nil) (.node (boot_o_7 p) .nil .nil))) (.node (boot_o_8 p) (.node (j61 p) (.node (boot_o_7 p) (.node (boot_o_8 p) .nil .nil) .nil) (.node (j140 p) .nil .nil)) (.node (boot_o_8 p) (.node (j121 p) .nil .nil) (.node (j158 p) .nil .nil))))))) (.node (j3 p) (.node (boot_o_4 p) (.node (boot_o_8 p) (.node (j7 p) (.node (j19 p) (.node (j41 p) (.node (j87 p) (.node (boot_o_7 p) .nil .nil) .nil) (.node (boot_o_7 p) .nil .nil)) (.node (boot_o_7 p) (.node (boot_o_7 p) (.node (j178 p) .nil .nil) .nil) (.node (boot_o_8 p) .nil .nil))) (.node (j31 p) (.node (j51 p) (.node (boot_o_8 p) (.node (j169 p) .nil .nil) .nil) (.node (j132 p) .nil .nil)) (.node (j72 p) (.node (j114 p) .nil .nil) (.node (boot_o_7 p) .nil .nil)))) (.node (j12 p) (.node (j24 p) (.node (j46 p) (.node (boot_o_7 p) (.node (boot_o_8 p) .nil .nil) .nil) (.node (boot_o_7 p) .nil .nil)) (.node (boot_o_8 p) (.node (j109 p) .nil .nil) (.node (j146 p) .nil .nil))) (.node (boot_o_7 p) (.node (boot_o_7 p) (.node (j100 p) (.node (boot_o_7 p) .nil .nil) .nil) (.node (j137 p) .nil .nil)) (.node (j79 p) (.node (j119 p) .nil .nil) (.node (j156 p) .nil .nil))))) (.node (j84 p) (.node (j10 p) (.node (j7 p) (.node (boot_o_8 p) (.node (boot_o_7 p) (.node (j162 p) .nil .nil) .nil) (.node (j126 p) .nil .nil)) (.node (j65 p) (.node (boot_o_7 p) .nil .nil) (.node (j144 p) .nil .nil))) (.node (j35 p) (.node (j55 p) (.node (j98 p) (.node (j172 p) .nil .nil) .nil) (.node (boot_o_8 p) .nil .nil)) (.node (j75 p) (.node (j116 p) .nil .nil) (.node (boot_o_7 p) .nil .nil)))) (.node (j15 p) (.node (j27 p) (.node (j48 p) (.node (j93 p) (.node (j167 p) .nil .nil) .nil) (.node (boot_o_7 p) .nil .nil)) (.node (j70 p) (.node (boot_o_8 p) .nil .nil) (.node (j149 p) .nil .nil))) (.node (boot_o_7 p) (.node (j60 p) (.node (j103 p) (.node (boot_o_7 p) .nil .nil) .nil) (.node (j139 p) .nil .nil)) (.node (boot_o_7 p) (.node (boot_o_7 p) .nil .nil) (.node (boot_o_7 p) .nil .nil)))))) (.node (boot_o_6 p) (.node (boot_o_10 p) (.node (boot_o_7 p) (.node (j21 p) (.node (j43 p) (.node (boot_o_8 p) (.node (j161 p) .nil .nil) .nil) (.node (j124 p) .nil .nil)) (.node (j64 p) (.node (j106 p) (.node (j180 p) .nil .nil) .nil) (.node (boot_o_7 p) .nil .nil))) (.node (j33 p) (.node (j53 p) (.node (boot_o_7 p) (.node (j170 p) .nil .nil) .nil) (.node (j134 p) .nil .nil)) (.node (j73 p) (.node (boot_o_7 p) .nil .nil) (.node (j152 p) .nil .nil)))) (.node (j13 p) (.node (boot_o_7 p) (.node (boot_o_7 p) (.node (j92 p) (.node (boot_o_7 p) .nil .nil) .nil) (.node (j129 p) .nil .nil)) (.node (boot_o_7 p) (.node (j111 p) .nil .nil) (.node (j147 p) .nil .nil))) (.node (j38 p) (.node (j59 p) (.node (j101 p) (.node (j175 p) .nil .nil) .nil) (.node (boot_o_7 p) .nil .nil)) (.node (j81 p) (.node (boot_o_8 p) .nil .nil) (.node (boot_o_8 p) .nil .nil))))) (.node (j2 p) (.node (boot_o_7 p) (.node (boot_o_7 p) (.node (boot_o_7 p) (.node (j90 p) (.node (j164 p) .nil .nil) .nil) (.node (boot_o_8 p) .nil .nil)) (.node (j67 p) (.node (j108 p) .nil .nil) (.node (boot_o_7 p) .nil .nil))) (.node (j7 p) (.node (j57 p) (.node (boot_o_7 p) (.node (boot_o_8 p) .nil .nil) .nil) (.node (boot_o_7 p) .nil .nil)) (.node (j77 p) (.node (j117 p) .nil .nil) (.node (j154 p) .nil .nil)))) (.node (j17 p) (.node (j29 p) (.node (j49 p) (.node (j95 p) (.node (boot_o_7 p) .nil .nil) .nil) (.node (j131 p) .nil .nil)) (.node (boot_o_7 p) (.node (boot_o_7 p) .nil .nil) (.node (boot_o_8 p) .nil .nil))) (.node (j40 p) (.node (j62 p) (.node (boot_o_8 p) (.node (j177 p) .nil .nil) .nil) (.node (j141 p) .nil .nil)) (.node (j85 p) (.node (j122 p) .nil .nil) (.node (j159 p) .nil .nil))))))))
noncomputable abbrev T34 (w : World) (os : OsState) : SharedT := ⟨tr34 w.params, 291, (Life.mk [] [] [] 0 [] [] Bool.false #[] [] 0 Bool.false Bool.false Bool.false (0 : Int) [(2000 : Int), (10 : Int), (10 : Int)] Bool.false 0 Bool.true [] [] 0 Bool.false), #[], (Drawn.mk 0 0 0 0), 580, os⟩
noncomputable def hpF (p : Params) : Heap := ⟨Array.mk [(boot_o_0 p), (boot_o_1 p), (j3 p), (j83 p), (boot_o_4 p), (boot_o_5 p), (boot_o_6 p), (boot_o_7 p), (boot_o_8 p), (boot_o_9 p), (boot_o_10 p), (boot_o_7 p), (j84 p), (j1 p), (j2 p), (j6 p), (j7 p), (j8 p), (boot_o_7 p), (j9 p), (j10 p), (j11 p), (boot_o_7 p), (boot_o_8 p), (j12 p), (boot_o_7 p), (j13 p), (j14 p), (j15 p), (j16 p), (j17 p), (j18 p), (j19 p), (j20 p), (j21 p), (j22 p), (j7 p), (j23 p), (boot_o_7 p), (boot_o_8 p), (j24 p), (j25 p), (boot_o_7 p), (j26 p), (j27 p), (j28 p), (j29 p), (j30 p), (j31 p), (j32 p), (j33 p), (j34 p), (j35 p), (boot_o_7 p), (j7 p), (j36 p), (boot_o_7 p), (j37 p), (j38 p), (j39 p), (boot_o_7 p), (boot_o_8 p), (j40 p), (boot_o_7 p), (j41 p), (j42 p), (j43 p), (boot_o_7 p), (boot_o_8 p), (j44 p), (boot_o_7 p), (j45 p), (j46 p), (j47 p), (boot_o_7 p), (boot_o_8 p), (j48 p), (boot_o_7 p), (j49 p), (j50 p), (j51 p), (j52 p), (j53 p), (j54 p), (j55 p), (j56 p), (j57 p), (j58 p), (boot_o_7 p), (j7 p), (j59 p), (boot_o_7 p), (j60 p), (j61 p), (j62 p), (j63 p), (boot_o_7 p), (boot_o_8 p), (j64 p), (boot_o_7 p), (j65 p), (j66 p), (j67 p), (boot_o_7 p), (boot_o_8 p), (j68 p), (boot_o_7 p), (j69 p), (j70 p), (j71 p), (boot_o_7 p), (boot_o_8 p), (j72 p), (boot_o_7 p), (j73 p), (j74 p), (j75 p), (j76 p), (j77 p), (j78 p), (j79 p), (j80 p), (j81 p), (j82 p), (boot_o_7 p), (boot_o_8 p), (j85 p), (j86 p), (j87 p), (boot_o_7 p), (boot_o_8 p), (j88 p), (boot_o_7 p), (j89 p), (j90 p), (j91 p), (boot_o_7 p), (boot_o_8 p), (j92 p), (boot_o_7 p), (j93 p), (j94 p), (j95 p), (boot_o_7 p), (boot_o_8 p), (j96 p), (boot_o_7 p), (j97 p), (j98 p), (j99 p), (boot_o_7 p), (boot_o_8 p), (j100 p), (boot_o_7 p), (j101 p), (j102 p), (j103 p), (boot_o_7 p), (boot_o_8 p), (j104 p), (boot_o_7 p), (j105 p), (j106 p), (j107 p), (boot_o_7 p), (boot_o_8 p), (j108 p), (boot_o_7 p), (j109 p), (j110 p), (j111 p), (boot_o_7 p), (boot_o_8 p), (j112 p), (boot_o_7 p), (j113 p), (j114 p), (j115 p), (boot_o_7 p), (boot_o_8 p), (j116 p), (boot_o_7 p), (j117 p), (j118 p), (j119 p), (boot_o_7 p), (boot_o_8 p), (j120 p), (boot_o_7 p), (j121 p), (j122 p), (j123 p), (boot_o_7 p), (boot_o_8 p), (j124 p), (j125 p), (j126 p), (boot_o_7 p), (boot_o_8 p), (j127 p), (boot_o_7 p), (j128 p), (j129 p), (j130 p), (boot_o_7 p), (boot_o_8 p), (j131 p), (boot_o_7 p), (j132 p), (j133 p), (j134 p), (boot_o_7 p), (boot_o_8 p), (j135 p), (boot_o_7 p), (j136 p), (j137 p), (j138 p), (boot_o_7 p), (boot_o_8 p), (j139 p), (j140 p), (j141 p), (boot_o_7 p), (boot_o_8 p), (j142 p), (boot_o_7 p), (j143 p), (j144 p), (j145 p), (boot_o_7 p), (boot_o_8 p), (j146 p), (boot_o_7 p), (j147 p), (j148 p), (j149 p), (boot_o_7 p), (boot_o_8 p), (j150 p), (boot_o_7 p), (j151 p), (j152 p), (j153 p), (boot_o_7 p), (boot_o_8 p), (j154 p), (j155 p), (j156 p), (boot_o_7 p), (boot_o_8 p), (j157 p), (boot_o_7 p), (j158 p), (j159 p), (j160 p), (boot_o_7 p), (boot_o_8 p), (j161 p), (boot_o_7 p), (j162 p), (j163 p), (j164 p), (boot_o_7 p), (boot_o_8 p), (j165 p), (boot_o_7 p), (j166 p), (j167 p), (j168 p), (boot_o_7 p), (boot_o_8 p), (j169 p), (boot_o_7 p), (j170 p), (j171 p), (j172 p), (boot_o_7 p), (boot_o_8 p), (j173 p), (boot_o_7 p), (j174 p), (j175 p), (j176 p), (boot_o_7 p), (boot_o_8 p), (j177 p), (boot_o_7 p), (j178 p), (j179 p), (j180 p)], (Life.mk [] [] [] 0 [] [] Bool.false #[] [] 0 Bool.false Bool.false Bool.false (0 : Int) [(2000 : Int), (10 : Int), (10 : Int)] Bool.false 0 Bool.true [] [] 0 Bool.false)⟩
noncomputable abbrev SF (w : World) (os : OsState) : Shared := ⟨hpF w.params, #[], (Drawn.mk 0 0 0 0), 580, os⟩
noncomputable abbrev S0 (w : World) (os : OsState) : Shared := ⟨boot_heap w.params, Array.mk [], boot_drawn, boot_toks, os⟩
theorem hd0 (w : World) (os : OsState) : topGo treeTable P0 w 11 nE 12 (S0 w os) (topStub P0) = some (SA w os, ⟨denote treeTable cE, cE, (Pos.mk 0 0 0 0), fE⟩) := by kernel_rfl
theorem hd1 (w : World) (os : OsState) : segRun treeTable P0 w 11 nE 1 1 (SA w os) (blockOf bE eE cE (Pos.mk 0 0 0 0) fE) = some (.next, (TB w os).abs, cE, (Pos.mk 0 0 0 0)) := by kernel_rfl
noncomputable def g8 : List Stmt := bE.take 8
theorem hq8 (w : World) (os : OsState) : segRunT treeTable P0 w 11 nE 1 1103 (TB w os) (piecesOf g8 eE cE (Pos.mk 0 0 0 0) fE) = some (.next, T8 w os, cE, (Pos.mk 25 0 51 82)) := by kernel_rfl
noncomputable def g34 : List Stmt := (bE.drop 8).take 26
theorem hq34 (w : World) (os : OsState) : segRunT treeTable P0 w 11 nE 1 760 (T8 w os) (piecesOf g34 eE cE (Pos.mk 25 0 51 82) fE) = some (.next, T34 w os, cE, (Pos.mk 166 0 181 15)) := by kernel_rfl
theorem hdF (w : World) (os : OsState) : topRun treeTable P0 w 11 nE 2 (T34 w os).abs ⟨doneF .next, cE, (Pos.mk 166 0 181 15), fE⟩ = some (SF w os) := by kernel_rfl
theorem bE_eq : bE = g8 ++ (g34 ++ ([])) := by kernel_rfl
theorem rest_eq {w : World} {m N : Nat} {a : Option Value} {s r : Shared} {b b' : List Stmt} {e : Env} {c : Code} {q : Pos} {B : List Frame} (h : b = b') (k : topRun treeTable P0 w m a N s (restOf b' e c q B) = some r) : topRun treeTable P0 w m a N s (restOf b e c q B) = some r := h ▸ k
theorem hdR (w : World) (os : OsState) : topRun treeTable P0 w 11 nE (12 + (1 + (1103 + (760 + 2)))) (S0 w os) (topStub P0) = some (SF w os) :=
  go_top (hd0 w os) (piece_block (hd1 w os) (rest_eq bE_eq (piece_app (segRun_of (hq8 w os)) (piece_app (segRun_of (hq34 w os)) (piece_nil (hdF w os))))))
theorem hdO : ∀ w : World, (fencedOpening treeTable P0 w 3848).map (fun s => (s.heap, s.gens, s.drawn, s.toks)) = some (boot_heap w.params, Array.mk [], boot_drawn, boot_toks) := boot_open (by kernel_rfl) (by decide) (fun s => by kernel_rfl)
theorem hdS : ∀ w : World, ((boot_heap w.params).isNs mainGlobals && (Array.mk [] : Array GenState).size == 0, (boot_heap w.params).objs.size, (boot_heap w.params).nsMap mainGlobals "__annotations__") = (true, 11, nE) := by intro w; kernel_rfl
noncomputable abbrev viewOf (pm : Program) (a1 a2 a4 a5 a6 a7 a8 a9 a10 a11 a12 a13 a14 a15 a16 a17 a18 a20 a21 a22 a23 a24 a25 a26 a27 a28 a29 a30 a31 a32 a33 a0 a3 a19 : PySem.Stmt)
   (_h : pm.main.body = [a0, a1, a2, a3, a4, a5, a6, a7, a8, a9, a10, a11, a12, a13, a14, a15, a16, a17, a18, a19, a20, a21, a22, a23, a24, a25, a26, a27, a28, a29, a30, a31, a32, a33]) : Program :=
   { pm with main := { pm.main with body := [a1, a2, a4, a5, a6, a7, a8, a9, a10, a11, a12, a13, a14, a15, a16, a17, a18, a20, a21, a22, a23, a24, a25, a26, a27, a28, a29, a30, a31, a32, a33] } }
noncomputable def view : Program := viewOf PySem.Challenge.pw_xm0978_01 _ _ _ _ _ _ _ _ _ _ _ _ _ _ _ _ _ _ _ _ _ _ _ _ _ _ _ _ _ _ _ _ _ _ rfl
local macro_rules | `(tactic| o_head $H) => `(tactic| (
  refine PySem.W.holds_open (q := Mine.view) (loose := [PySem.Str.ofString "Bpdu"]) (Xt := fun s => xlAt Mine.view ([] : List (PySem.Str × WData)) s && recOk (RowW.records (OpenRow.toRowW PySem.Challenge.rw_xm0978_01.row)) s) (XP := XL Mine.view ([] : List (PySem.Str × WData))) (Yf := Hook.obs $H) (Ya := Hook.val $H) (YP := Hook.says $H) (N := 3848) ?hl (Hook.of $H) (Hook.keeps $H) (fun s e => xl_of s (Bool.and_eq_true_iff.mp e).1) XL.keeps (by rfl) (by rfl) (by rfl) (fun s e => recFacts_of (Bool.and_eq_true_iff.mp e).2) (by rfl) (by first | assumption | decide +kernel) (by decide +kernel) ⟨rfl, rfl, rfl, rfl, rfl, by decide +kernel⟩ ?hw ?hc
  (case hl => exact PySem.W.LeftO.of_pieces Mine.hdO Mine.hdS Mine.hdR (by decide) (by intro w; kernel_rfl))))
theorem and_t {a b : Bool} (x : a = true) (y : b = true) : (a && b) = true := by rw [x, y]; rfl
theorem wellsaid : OpenLaw.wellSaid PySem.Challenge.rw_xm0978_01 = true := by
  unfold OpenLaw.wellSaid OpenRow.wellSaid OpenRow.partSaid looksOpen
  repeat' with_reducible refine and_t ?_ ?_
  all_goals decide +kernel
local macro_rules | `(tactic| o_law) => `(tactic| refine holds_law Mine.wellsaid fun said => ?_)
set_option maxHeartbeats 8000000 in
open_top hd for PySem.Challenge.rw_xm0978_01
local macro_rules | `(tactic| walk_at $s:str) => `(tactic| k_extra $s)
-- Base
open PySem.Calls
theorem lines1 : True := by
  w_top off
  trivial
section
variable {prog : Program} {w : World} {A : Around} {E : Value → Shared → Prop} {s : Shared} {h₀ : Heap} {L D : Addr} {m : Str → Option Value} {news news' : List (Addr × Obj)}
theorem it_list {value slice : PySem.Expr} {l : List Value} {n : Nat} {k : Int} {u : Tok} {v : Value} {Q : Value → Shared → Prop}
   (N : News h₀ L s.heap news) (hm : (D, listOf l.toArray n) ∈ news) (h0 : 0 ≤ k) (hhi : k < 2 ^ 63) (hx : l[k.toNat]? = some v) (h : Q v s)
   (hs : subscripted slice false (.ref D) (.int k u) = operate [.ref D, .int k u] (getItem (.ref D) (.int k u)) := by with_unfolding_all rfl) :
   wpAny (model prog w) A (subscriptTail value slice (.ref D) (.int k u)) Q E s :=
  have hL := PySem.IsL.isList (n := n) (N _ hm).1
  tail_any hL.typeIs slot_list_getitem.lookup (wpAny_getItem_list hL h0 hhi (by simpa using hx) h) hs
theorem it_set0 {a b v : Value} {n : Nat} {t : Tok} {Q : Unit → Shared → Prop} (F : Fr h₀ L s.heap m) (N : News h₀ L s.heap news)
   (U : Upd D (listOf [a, b].toArray n) (listOf [v, b].toArray n) news news')
   (h : ∀ h', Fr h₀ L h' m → News h₀ L h' news' → Q () { s with heap := h' }) : wpAny (model prog w) A (setItem (.ref D) (.int 0 t) v) Q E s := by
  obtain ⟨pre, post, rfl, rfl, h1, h2⟩ := U.split
  have z := N (D, listOf [a, b].toArray n) (List.mem_append.mpr (.inr (.head _)))
  refine ki_setAt z.1 (by decide) (by decide) (by simp) (h _ (F.change (Heap.SameBut.update ..) z.2.1 z.2.2) (ki_turn _ N h1 h2 ?_ ?_))
  · rfl
  · simp
theorem it_set1 {a b v : Value} {n : Nat} {t : Tok} {Q : Unit → Shared → Prop} (F : Fr h₀ L s.heap m) (N : News h₀ L s.heap news)
   (U : Upd D (listOf [a, b].toArray n) (listOf [a, v].toArray n) news news')
   (h : ∀ h', Fr h₀ L h' m → News h₀ L h' news' → Q () { s with heap := h' }) : wpAny (model prog w) A (setItem (.ref D) (.int 1 t) v) Q E s := by
  obtain ⟨pre, post, rfl, rfl, h1, h2⟩ := U.split
  have z := N (D, listOf [a, b].toArray n) (List.mem_append.mpr (.inr (.head _)))
  refine ki_setAt z.1 (by decide) (by decide) (by simp) (h _ (F.change (Heap.SameBut.update ..) z.2.1 z.2.2) (ki_turn _ N h1 h2 ?_ ?_))
  · rfl
  · simp
theorem mod_pos {a b : Int} {t u : Tok} {Q : Value → Shared → Prop} (hb : 0 < b) (h : ∀ r : Int, r = a.fmod b → 0 ≤ r → r < b → Q (.int r s.toks) { s with toks := s.toks + 1 }) :
   wpAny (model prog w) A (binaryOp .Mod (.int a t) (.int b u)) Q E s :=
  mod_int' (by omega) (h _ rfl (Int.fmod_nonneg_of_pos _ hb) (Int.fmod_lt_of_pos _ hb))
theorem div_pos {a b : Int} {t u : Tok} {Q : Value → Shared → Prop} (hb : 0 < b) (hb2 : b < 1073741824) (h : ∀ r : Int, r = a.fdiv b → (0 ≤ a → 0 ≤ r) → Q (.int r s.toks) { s with toks := s.toks + 1 }) :
   wpAny (model prog w) A (binaryOp .FloorDiv (.int a t) (.int b u)) Q E s :=
  floordiv_int (by omega) (h _ rfl (fun h0 => Int.fdiv_nonneg h0 (by omega))) (Or.inl (PyProof.noPylong_small (by omega)))
theorem mul_gen {a b : Int} {t u : Tok} {Q : Value → Shared → Prop} (hm : IntMulOk a b) (h : ∀ r : Int, r = a * b → (0 ≤ a → 0 ≤ b → 0 ≤ r) → Q (.int r s.toks) { s with toks := s.toks + 1 }) :
   wpAny (model prog w) A (binaryOp .Mult (.int a t) (.int b u)) Q E s :=
  mul_int (h _ rfl (fun h0 h1 => Int.mul_nonneg h0 h1)) hm
end
local macro_rules | `(tactic| k_all) => `(tactic| assumption)
theorem lines2 : True := by
  (k_with "m_num" => first | decide | assumption | omega)
  (k_with "subscriptTail Name Constant ref int" => (k_here; (with_reducible show wpAny _ _ (subscriptTail _ _ (Value.ref _) (Value.int _ _)) _ _ _); k_dflt (refine' it_list ?z2k1 ?z2k2 ?z2k3 ?z2k4 ?z2k5 ?_ ?z2k6; (case z2k1 => k_asm); (case z2k2 => k_mem); (case z2k3 => decide); (case z2k4 => decide); (case z2k5 => rfl); (case z2k6 => with_unfolding_all rfl); k_whole)))
  (k_with "setItem ref int int" => (k_here; (with_reducible show wpAny _ _ (setItem (Value.ref _) (Value.int 0 _) (Value.int _ _)) _ _ _); k_dflt (refine' it_set0 ?z3k1 ?z3k2 ?z3k3 ?_; (case z3k1 => k_asm); (case z3k2 => k_asm); (case z3k3 => k_upd); k_whole); intro h' F' N'; (try k_sweep)))
  (k_with "setItem ref int int" => (k_here; (with_reducible show wpAny _ _ (setItem (Value.ref _) (Value.int 1 _) (Value.int _ _)) _ _ _); k_dflt (refine' it_set1 ?z4k1 ?z4k2 ?z4k3 ?_; (case z4k1 => k_asm); (case z4k2 => k_asm); (case z4k3 => k_upd); k_whole); intro h' F' N'; (try k_sweep)))
  (k_with "binaryOp Mod int int" => (k_here; (refine' mod_pos ?z5k1 ?_; (case z5k1 => k_extra "m_num")); intro r' e' a' b'))
  (k_with "binaryOp FloorDiv int int" => (k_here; (refine' div_pos ?z6k1 ?z6k2 ?_; (case z6k1 => k_extra "m_num"); (case z6k2 => k_extra "m_num")); intro r' e' a'))
  (k_with "binaryOp Mult int int" => (k_here; (refine' mul_gen ?z7k1 ?_; (case z7k1 => mul_fits)); intro r' e' a'))
  trivial
theorem m_tail {α : Type} {a x : α} {l : List α} (h : x ∈ l) : x ∈ a :: l := .tail _ h
theorem m_head {α : Type} {a : α} {l : List α} : a ∈ a :: l := .head _
local macro_rules | `(tactic| k_mem) => `(tactic| first | with_reducible assumption | with_reducible exact m_head | (with_reducible refine m_tail ?_; k_mem))
-- Cj
theorem lines3 : True := by
  w_top off
  trivial
section
variable {x D : Addr}
theorem cj0 {b : Prop} (h : @LT.lt Nat _ x D ∧ b) : @LT.lt Nat _ x D := h.1
theorem cj1 {a0 b : Prop} (h : a0 ∧ @LT.lt Nat _ x D ∧ b) : @LT.lt Nat _ x D := h.2.1
theorem ck1 {a0 : Prop} (h : a0 ∧ @LT.lt Nat _ x D) : @LT.lt Nat _ x D := h.2
theorem cj2 {a0 a1 b : Prop} (h : a0 ∧ a1 ∧ @LT.lt Nat _ x D ∧ b) : @LT.lt Nat _ x D := h.2.2.1
theorem ck2 {a0 a1 : Prop} (h : a0 ∧ a1 ∧ @LT.lt Nat _ x D) : @LT.lt Nat _ x D := h.2.2
theorem cj3 {a0 a1 a2 b : Prop} (h : a0 ∧ a1 ∧ a2 ∧ @LT.lt Nat _ x D ∧ b) : @LT.lt Nat _ x D := h.2.2.2.1
theorem ck3 {a0 a1 a2 : Prop} (h : a0 ∧ a1 ∧ a2 ∧ @LT.lt Nat _ x D) : @LT.lt Nat _ x D := h.2.2.2
theorem cj4 {a0 a1 a2 a3 b : Prop} (h : a0 ∧ a1 ∧ a2 ∧ a3 ∧ @LT.lt Nat _ x D ∧ b) : @LT.lt Nat _ x D := h.2.2.2.2.1
theorem ck4 {a0 a1 a2 a3 : Prop} (h : a0 ∧ a1 ∧ a2 ∧ a3 ∧ @LT.lt Nat _ x D) : @LT.lt Nat _ x D := h.2.2.2.2
theorem cj5 {a0 a1 a2 a3 a4 b : Prop} (h : a0 ∧ a1 ∧ a2 ∧ a3 ∧ a4 ∧ @LT.lt Nat _ x D ∧ b) : @LT.lt Nat _ x D := h.2.2.2.2.2.1
theorem ck5 {a0 a1 a2 a3 a4 : Prop} (h : a0 ∧ a1 ∧ a2 ∧ a3 ∧ a4 ∧ @LT.lt Nat _ x D) : @LT.lt Nat _ x D := h.2.2.2.2.2
theorem cj6 {a0 a1 a2 a3 a4 a5 b : Prop} (h : a0 ∧ a1 ∧ a2 ∧ a3 ∧ a4 ∧ a5 ∧ @LT.lt Nat _ x D ∧ b) : @LT.lt Nat _ x D := h.2.2.2.2.2.2.1
theorem ck6 {a0 a1 a2 a3 a4 a5 : Prop} (h : a0 ∧ a1 ∧ a2 ∧ a3 ∧ a4 ∧ a5 ∧ @LT.lt Nat _ x D) : @LT.lt Nat _ x D := h.2.2.2.2.2.2
theorem cj7 {a0 a1 a2 a3 a4 a5 a6 b : Prop} (h : a0 ∧ a1 ∧ a2 ∧ a3 ∧ a4 ∧ a5 ∧ a6 ∧ @LT.lt Nat _ x D ∧ b) : @LT.lt Nat _ x D := h.2.2.2.2.2.2.2.1
theorem ck7 {a0 a1 a2 a3 a4 a5 a6 : Prop} (h : a0 ∧ a1 ∧ a2 ∧ a3 ∧ a4 ∧ a5 ∧ a6 ∧ @LT.lt Nat _ x D) : @LT.lt Nat _ x D := h.2.2.2.2.2.2.2
theorem cj8 {a0 a1 a2 a3 a4 a5 a6 a7 b : Prop} (h : a0 ∧ a1 ∧ a2 ∧ a3 ∧ a4 ∧ a5 ∧ a6 ∧ a7 ∧ @LT.lt Nat _ x D ∧ b) : @LT.lt Nat _ x D := h.2.2.2.2.2.2.2.2.1
theorem ck8 {a0 a1 a2 a3 a4 a5 a6 a7 : Prop} (h : a0 ∧ a1 ∧ a2 ∧ a3 ∧ a4 ∧ a5 ∧ a6 ∧ a7 ∧ @LT.lt Nat _ x D) : @LT.lt Nat _ x D := h.2.2.2.2.2.2.2.2
theorem cj9 {a0 a1 a2 a3 a4 a5 a6 a7 a8 b : Prop} (h : a0 ∧ a1 ∧ a2 ∧ a3 ∧ a4 ∧ a5 ∧ a6 ∧ a7 ∧ a8 ∧ @LT.lt Nat _ x D ∧ b) : @LT.lt Nat _ x D := h.2.2.2.2.2.2.2.2.2.1
theorem ck9 {a0 a1 a2 a3 a4 a5 a6 a7 a8 : Prop} (h : a0 ∧ a1 ∧ a2 ∧ a3 ∧ a4 ∧ a5 ∧ a6 ∧ a7 ∧ a8 ∧ @LT.lt Nat _ x D) : @LT.lt Nat _ x D := h.2.2.2.2.2.2.2.2.2
theorem cj10 {a0 a1 a2 a3 a4 a5 a6 a7 a8 a9 b : Prop} (h : a0 ∧ a1 ∧ a2 ∧ a3 ∧ a4 ∧ a5 ∧ a6 ∧ a7 ∧ a8 ∧ a9 ∧ @LT.lt Nat _ x D ∧ b) : @LT.lt Nat _ x D := h.2.2.2.2.2.2.2.2.2.2.1
theorem ck10 {a0 a1 a2 a3 a4 a5 a6 a7 a8 a9 : Prop} (h : a0 ∧ a1 ∧ a2 ∧ a3 ∧ a4 ∧ a5 ∧ a6 ∧ a7 ∧ a8 ∧ a9 ∧ @LT.lt Nat _ x D) : @LT.lt Nat _ x D := h.2.2.2.2.2.2.2.2.2.2
theorem cj11 {a0 a1 a2 a3 a4 a5 a6 a7 a8 a9 a10 b : Prop} (h : a0 ∧ a1 ∧ a2 ∧ a3 ∧ a4 ∧ a5 ∧ a6 ∧ a7 ∧ a8 ∧ a9 ∧ a10 ∧ @LT.lt Nat _ x D ∧ b) : @LT.lt Nat _ x D := h.2.2.2.2.2.2.2.2.2.2.2.1
theorem ck11 {a0 a1 a2 a3 a4 a5 a6 a7 a8 a9 a10 : Prop} (h : a0 ∧ a1 ∧ a2 ∧ a3 ∧ a4 ∧ a5 ∧ a6 ∧ a7 ∧ a8 ∧ a9 ∧ a10 ∧ @LT.lt Nat _ x D) : @LT.lt Nat _ x D := h.2.2.2.2.2.2.2.2.2.2.2
theorem cj12 {a0 a1 a2 a3 a4 a5 a6 a7 a8 a9 a10 a11 b : Prop} (h : a0 ∧ a1 ∧ a2 ∧ a3 ∧ a4 ∧ a5 ∧ a6 ∧ a7 ∧ a8 ∧ a9 ∧ a10 ∧ a11 ∧ @LT.lt Nat _ x D ∧ b) : @LT.lt Nat _ x D := h.2.2.2.2.2.2.2.2.2.2.2.2.1
theorem ck12 {a0 a1 a2 a3 a4 a5 a6 a7 a8 a9 a10 a11 : Prop} (h : a0 ∧ a1 ∧ a2 ∧ a3 ∧ a4 ∧ a5 ∧ a6 ∧ a7 ∧ a8 ∧ a9 ∧ a10 ∧ a11 ∧ @LT.lt Nat _ x D) : @LT.lt Nat _ x D := h.2.2.2.2.2.2.2.2.2.2.2.2
theorem cj13 {a0 a1 a2 a3 a4 a5 a6 a7 a8 a9 a10 a11 a12 b : Prop} (h : a0 ∧ a1 ∧ a2 ∧ a3 ∧ a4 ∧ a5 ∧ a6 ∧ a7 ∧ a8 ∧ a9 ∧ a10 ∧ a11 ∧ a12 ∧ @LT.lt Nat _ x D ∧ b) : @LT.lt Nat _ x D := h.2.2.2.2.2.2.2.2.2.2.2.2.2.1
theorem ck13 {a0 a1 a2 a3 a4 a5 a6 a7 a8 a9 a10 a11 a12 : Prop} (h : a0 ∧ a1 ∧ a2 ∧ a3 ∧ a4 ∧ a5 ∧ a6 ∧ a7 ∧ a8 ∧ a9 ∧ a10 ∧ a11 ∧ a12 ∧ @LT.lt Nat _ x D) : @LT.lt Nat _ x D := h.2.2.2.2.2.2.2.2.2.2.2.2.2
theorem cj14 {a0 a1 a2 a3 a4 a5 a6 a7 a8 a9 a10 a11 a12 a13 b : Prop} (h : a0 ∧ a1 ∧ a2 ∧ a3 ∧ a4 ∧ a5 ∧ a6 ∧ a7 ∧ a8 ∧ a9 ∧ a10 ∧ a11 ∧ a12 ∧ a13 ∧ @LT.lt Nat _ x D ∧ b) : @LT.lt Nat _ x D := h.2.2.2.2.2.2.2.2.2.2.2.2.2.2.1
theorem ck14 {a0 a1 a2 a3 a4 a5 a6 a7 a8 a9 a10 a11 a12 a13 : Prop} (h : a0 ∧ a1 ∧ a2 ∧ a3 ∧ a4 ∧ a5 ∧ a6 ∧ a7 ∧ a8 ∧ a9 ∧ a10 ∧ a11 ∧ a12 ∧ a13 ∧ @LT.lt Nat _ x D) : @LT.lt Nat _ x D := h.2.2.2.2.2.2.2.2.2.2.2.2.2.2
theorem cj15 {a0 a1 a2 a3 a4 a5 a6 a7 a8 a9 a10 a11 a12 a13 a14 b : Prop} (h : a0 ∧ a1 ∧ a2 ∧ a3 ∧ a4 ∧ a5 ∧ a6 ∧ a7 ∧ a8 ∧ a9 ∧ a10 ∧ a11 ∧ a12 ∧ a13 ∧ a14 ∧ @LT.lt Nat _ x D ∧ b) : @LT.lt Nat _ x D := h.2.2.2.2.2.2.2.2.2.2.2.2.2.2.2.1
theorem ck15 {a0 a1 a2 a3 a4 a5 a6 a7 a8 a9 a10 a11 a12 a13 a14 : Prop} (h : a0 ∧ a1 ∧ a2 ∧ a3 ∧ a4 ∧ a5 ∧ a6 ∧ a7 ∧ a8 ∧ a9 ∧ a10 ∧ a11 ∧ a12 ∧ a13 ∧ a14 ∧ @LT.lt Nat _ x D) : @LT.lt Nat _ x D := h.2.2.2.2.2.2.2.2.2.2.2.2.2.2.2
theorem cj16 {a0 a1 a2 a3 a4 a5 a6 a7 a8 a9 a10 a11 a12 a13 a14 a15 b : Prop} (h : a0 ∧ a1 ∧ a2 ∧ a3 ∧ a4 ∧ a5 ∧ a6 ∧ a7 ∧ a8 ∧ a9 ∧ a10 ∧ a11 ∧ a12 ∧ a13 ∧ a14 ∧ a15 ∧ @LT.lt Nat _ x D ∧ b) : @LT.lt Nat _ x D := h.2.2.2.2.2.2.2.2.2.2.2.2.2.2.2.2.1
theorem ck16 {a0 a1 a2 a3 a4 a5 a6 a7 a8 a9 a10 a11 a12 a13 a14 a15 : Prop} (h : a0 ∧ a1 ∧ a2 ∧ a3 ∧ a4 ∧ a5 ∧ a6 ∧ a7 ∧ a8 ∧ a9 ∧ a10 ∧ a11 ∧ a12 ∧ a13 ∧ a14 ∧ a15 ∧ @LT.lt Nat _ x D) : @LT.lt Nat _ x D := h.2.2.2.2.2.2.2.2.2.2.2.2.2.2.2.2
theorem cj17 {a0 a1 a2 a3 a4 a5 a6 a7 a8 a9 a10 a11 a12 a13 a14 a15 a16 b : Prop} (h : a0 ∧ a1 ∧ a2 ∧ a3 ∧ a4 ∧ a5 ∧ a6 ∧ a7 ∧ a8 ∧ a9 ∧ a10 ∧ a11 ∧ a12 ∧ a13 ∧ a14 ∧ a15 ∧ a16 ∧ @LT.lt Nat _ x D ∧ b) : @LT.lt Nat _ x D := h.2.2.2.2.2.2.2.2.2.2.2.2.2.2.2.2.2.1
theorem ck17 {a0 a1 a2 a3 a4 a5 a6 a7 a8 a9 a10 a11 a12 a13 a14 a15 a16 : Prop} (h : a0 ∧ a1 ∧ a2 ∧ a3 ∧ a4 ∧ a5 ∧ a6 ∧ a7 ∧ a8 ∧ a9 ∧ a10 ∧ a11 ∧ a12 ∧ a13 ∧ a14 ∧ a15 ∧ a16 ∧ @LT.lt Nat _ x D) : @LT.lt Nat _ x D := h.2.2.2.2.2.2.2.2.2.2.2.2.2.2.2.2.2
theorem cj18 {a0 a1 a2 a3 a4 a5 a6 a7 a8 a9 a10 a11 a12 a13 a14 a15 a16 a17 b : Prop} (h : a0 ∧ a1 ∧ a2 ∧ a3 ∧ a4 ∧ a5 ∧ a6 ∧ a7 ∧ a8 ∧ a9 ∧ a10 ∧ a11 ∧ a12 ∧ a13 ∧ a14 ∧ a15 ∧ a16 ∧ a17 ∧ @LT.lt Nat _ x D ∧ b) : @LT.lt Nat _ x D := h.2.2.2.2.2.2.2.2.2.2.2.2.2.2.2.2.2.2.1
theorem ck18 {a0 a1 a2 a3 a4 a5 a6 a7 a8 a9 a10 a11 a12 a13 a14 a15 a16 a17 : Prop} (h : a0 ∧ a1 ∧ a2 ∧ a3 ∧ a4 ∧ a5 ∧ a6 ∧ a7 ∧ a8 ∧ a9 ∧ a10 ∧ a11 ∧ a12 ∧ a13 ∧ a14 ∧ a15 ∧ a16 ∧ a17 ∧ @LT.lt Nat _ x D) : @LT.lt Nat _ x D := h.2.2.2.2.2.2.2.2.2.2.2.2.2.2.2.2.2.2
theorem cj19 {a0 a1 a2 a3 a4 a5 a6 a7 a8 a9 a10 a11 a12 a13 a14 a15 a16 a17 a18 b : Prop} (h : a0 ∧ a1 ∧ a2 ∧ a3 ∧ a4 ∧ a5 ∧ a6 ∧ a7 ∧ a8 ∧ a9 ∧ a10 ∧ a11 ∧ a12 ∧ a13 ∧ a14 ∧ a15 ∧ a16 ∧ a17 ∧ a18 ∧ @LT.lt Nat _ x D ∧ b) : @LT.lt Nat _ x D := h.2.2.2.2.2.2.2.2.2.2.2.2.2.2.2.2.2.2.2.1
theorem ck19 {a0 a1 a2 a3 a4 a5 a6 a7 a8 a9 a10 a11 a12 a13 a14 a15 a16 a17 a18 : Prop} (h : a0 ∧ a1 ∧ a2 ∧ a3 ∧ a4 ∧ a5 ∧ a6 ∧ a7 ∧ a8 ∧ a9 ∧ a10 ∧ a11 ∧ a12 ∧ a13 ∧ a14 ∧ a15 ∧ a16 ∧ a17 ∧ a18 ∧ @LT.lt Nat _ x D) : @LT.lt Nat _ x D := h.2.2.2.2.2.2.2.2.2.2.2.2.2.2.2.2.2.2.2
theorem cj20 {a0 a1 a2 a3 a4 a5 a6 a7 a8 a9 a10 a11 a12 a13 a14 a15 a16 a17 a18 a19 b : Prop} (h : a0 ∧ a1 ∧ a2 ∧ a3 ∧ a4 ∧ a5 ∧ a6 ∧ a7 ∧ a8 ∧ a9 ∧ a10 ∧ a11 ∧ a12 ∧ a13 ∧ a14 ∧ a15 ∧ a16 ∧ a17 ∧ a18 ∧ a19 ∧ @LT.lt Nat _ x D ∧ b) : @LT.lt Nat _ x D := h.2.2.2.2.2.2.2.2.2.2.2.2.2.2.2.2.2.2.2.2.1
theorem ck20 {a0 a1 a2 a3 a4 a5 a6 a7 a8 a9 a10 a11 a12 a13 a14 a15 a16 a17 a18 a19 : Prop} (h : a0 ∧ a1 ∧ a2 ∧ a3 ∧ a4 ∧ a5 ∧ a6 ∧ a7 ∧ a8 ∧ a9 ∧ a10 ∧ a11 ∧ a12 ∧ a13 ∧ a14 ∧ a15 ∧ a16 ∧ a17 ∧ a18 ∧ a19 ∧ @LT.lt Nat _ x D) : @LT.lt Nat _ x D := h.2.2.2.2.2.2.2.2.2.2.2.2.2.2.2.2.2.2.2.2
theorem cj21 {a0 a1 a2 a3 a4 a5 a6 a7 a8 a9 a10 a11 a12 a13 a14 a15 a16 a17 a18 a19 a20 b : Prop} (h : a0 ∧ a1 ∧ a2 ∧ a3 ∧ a4 ∧ a5 ∧ a6 ∧ a7 ∧ a8 ∧ a9 ∧ a10 ∧ a11 ∧ a12 ∧ a13 ∧ a14 ∧ a15 ∧ a16 ∧ a17 ∧ a18 ∧ a19 ∧ a20 ∧ @LT.lt Nat _ x D ∧ b) : @LT.lt Nat _ x D := h.2.2.2.2.2.2.2.2.2.2.2.2.2.2.2.2.2.2.2.2.2.1
theorem ck21 {a0 a1 a2 a3 a4 a5 a6 a7 a8 a9 a10 a11 a12 a13 a14 a15 a16 a17 a18 a19 a20 : Prop} (h : a0 ∧ a1 ∧ a2 ∧ a3 ∧ a4 ∧ a5 ∧ a6 ∧ a7 ∧ a8 ∧ a9 ∧ a10 ∧ a11 ∧ a12 ∧ a13 ∧ a14 ∧ a15 ∧ a16 ∧ a17 ∧ a18 ∧ a19 ∧ a20 ∧ @LT.lt Nat _ x D) : @LT.lt Nat _ x D := h.2.2.2.2.2.2.2.2.2.2.2.2.2.2.2.2.2.2.2.2.2
theorem cj22 {a0 a1 a2 a3 a4 a5 a6 a7 a8 a9 a10 a11 a12 a13 a14 a15 a16 a17 a18 a19 a20 a21 b : Prop} (h : a0 ∧ a1 ∧ a2 ∧ a3 ∧ a4 ∧ a5 ∧ a6 ∧ a7 ∧ a8 ∧ a9 ∧ a10 ∧ a11 ∧ a12 ∧ a13 ∧ a14 ∧ a15 ∧ a16 ∧ a17 ∧ a18 ∧ a19 ∧ a20 ∧ a21 ∧ @LT.lt Nat _ x D ∧ b) : @LT.lt Nat _ x D := h.2.2.2.2.2.2.2.2.2.2.2.2.2.2.2.2.2.2.2.2.2.2.1
theorem ck22 {a0 a1 a2 a3 a4 a5 a6 a7 a8 a9 a10 a11 a12 a13 a14 a15 a16 a17 a18 a19 a20 a21 : Prop} (h : a0 ∧ a1 ∧ a2 ∧ a3 ∧ a4 ∧ a5 ∧ a6 ∧ a7 ∧ a8 ∧ a9 ∧ a10 ∧ a11 ∧ a12 ∧ a13 ∧ a14 ∧ a15 ∧ a16 ∧ a17 ∧ a18 ∧ a19 ∧ a20 ∧ a21 ∧ @LT.lt Nat _ x D) : @LT.lt Nat _ x D := h.2.2.2.2.2.2.2.2.2.2.2.2.2.2.2.2.2.2.2.2.2.2
theorem cj23 {a0 a1 a2 a3 a4 a5 a6 a7 a8 a9 a10 a11 a12 a13 a14 a15 a16 a17 a18 a19 a20 a21 a22 b : Prop} (h : a0 ∧ a1 ∧ a2 ∧ a3 ∧ a4 ∧ a5 ∧ a6 ∧ a7 ∧ a8 ∧ a9 ∧ a10 ∧ a11 ∧ a12 ∧ a13 ∧ a14 ∧ a15 ∧ a16 ∧ a17 ∧ a18 ∧ a19 ∧ a20 ∧ a21 ∧ a22 ∧ @LT.lt Nat _ x D ∧ b) : @LT.lt Nat _ x D := h.2.2.2.2.2.2.2.2.2.2.2.2.2.2.2.2.2.2.2.2.2.2.2.1
theorem ck23 {a0 a1 a2 a3 a4 a5 a6 a7 a8 a9 a10 a11 a12 a13 a14 a15 a16 a17 a18 a19 a20 a21 a22 : Prop} (h : a0 ∧ a1 ∧ a2 ∧ a3 ∧ a4 ∧ a5 ∧ a6 ∧ a7 ∧ a8 ∧ a9 ∧ a10 ∧ a11 ∧ a12 ∧ a13 ∧ a14 ∧ a15 ∧ a16 ∧ a17 ∧ a18 ∧ a19 ∧ a20 ∧ a21 ∧ a22 ∧ @LT.lt Nat _ x D) : @LT.lt Nat _ x D := h.2.2.2.2.2.2.2.2.2.2.2.2.2.2.2.2.2.2.2.2.2.2.2
theorem cj24 {a0 a1 a2 a3 a4 a5 a6 a7 a8 a9 a10 a11 a12 a13 a14 a15 a16 a17 a18 a19 a20 a21 a22 a23 b : Prop} (h : a0 ∧ a1 ∧ a2 ∧ a3 ∧ a4 ∧ a5 ∧ a6 ∧ a7 ∧ a8 ∧ a9 ∧ a10 ∧ a11 ∧ a12 ∧ a13 ∧ a14 ∧ a15 ∧ a16 ∧ a17 ∧ a18 ∧ a19 ∧ a20 ∧ a21 ∧ a22 ∧ a23 ∧ @LT.lt Nat _ x D ∧ b) : @LT.lt Nat _ x D := h.2.2.2.2.2.2.2.2.2.2.2.2.2.2.2.2.2.2.2.2.2.2.2.2.1
theorem ck24 {a0 a1 a2 a3 a4 a5 a6 a7 a8 a9 a10 a11 a12 a13 a14 a15 a16 a17 a18 a19 a20 a21 a22 a23 : Prop} (h : a0 ∧ a1 ∧ a2 ∧ a3 ∧ a4 ∧ a5 ∧ a6 ∧ a7 ∧ a8 ∧ a9 ∧ a10 ∧ a11 ∧ a12 ∧ a13 ∧ a14 ∧ a15 ∧ a16 ∧ a17 ∧ a18 ∧ a19 ∧ a20 ∧ a21 ∧ a22 ∧ a23 ∧ @LT.lt Nat _ x D) : @LT.lt Nat _ x D := h.2.2.2.2.2.2.2.2.2.2.2.2.2.2.2.2.2.2.2.2.2.2.2.2
theorem cj25 {a0 a1 a2 a3 a4 a5 a6 a7 a8 a9 a10 a11 a12 a13 a14 a15 a16 a17 a18 a19 a20 a21 a22 a23 a24 b : Prop} (h : a0 ∧ a1 ∧ a2 ∧ a3 ∧ a4 ∧ a5 ∧ a6 ∧ a7 ∧ a8 ∧ a9 ∧ a10 ∧ a11 ∧ a12 ∧ a13 ∧ a14 ∧ a15 ∧ a16 ∧ a17 ∧ a18 ∧ a19 ∧ a20 ∧ a21 ∧ a22 ∧ a23 ∧ a24 ∧ @LT.lt Nat _ x D ∧ b) : @LT.lt Nat _ x D := h.2.2.2.2.2.2.2.2.2.2.2.2.2.2.2.2.2.2.2.2.2.2.2.2.2.1
theorem ck25 {a0 a1 a2 a3 a4 a5 a6 a7 a8 a9 a10 a11 a12 a13 a14 a15 a16 a17 a18 a19 a20 a21 a22 a23 a24 : Prop} (h : a0 ∧ a1 ∧ a2 ∧ a3 ∧ a4 ∧ a5 ∧ a6 ∧ a7 ∧ a8 ∧ a9 ∧ a10 ∧ a11 ∧ a12 ∧ a13 ∧ a14 ∧ a15 ∧ a16 ∧ a17 ∧ a18 ∧ a19 ∧ a20 ∧ a21 ∧ a22 ∧ a23 ∧ a24 ∧ @LT.lt Nat _ x D) : @LT.lt Nat _ x D := h.2.2.2.2.2.2.2.2.2.2.2.2.2.2.2.2.2.2.2.2.2.2.2.2.2
theorem cj26 {a0 a1 a2 a3 a4 a5 a6 a7 a8 a9 a10 a11 a12 a13 a14 a15 a16 a17 a18 a19 a20 a21 a22 a23 a24 a25 b : Prop} (h : a0 ∧ a1 ∧ a2 ∧ a3 ∧ a4 ∧ a5 ∧ a6 ∧ a7 ∧ a8 ∧ a9 ∧ a10 ∧ a11 ∧ a12 ∧ a13 ∧ a14 ∧ a15 ∧ a16 ∧ a17 ∧ a18 ∧ a19 ∧ a20 ∧ a21 ∧ a22 ∧ a23 ∧ a24 ∧ a25 ∧ @LT.lt Nat _ x D ∧ b) : @LT.lt Nat _ x D := h.2.2.2.2.2.2.2.2.2.2.2.2.2.2.2.2.2.2.2.2.2.2.2.2.2.2.1
theorem ck26 {a0 a1 a2 a3 a4 a5 a6 a7 a8 a9 a10 a11 a12 a13 a14 a15 a16 a17 a18 a19 a20 a21 a22 a23 a24 a25 : Prop} (h : a0 ∧ a1 ∧ a2 ∧ a3 ∧ a4 ∧ a5 ∧ a6 ∧ a7 ∧ a8 ∧ a9 ∧ a10 ∧ a11 ∧ a12 ∧ a13 ∧ a14 ∧ a15 ∧ a16 ∧ a17 ∧ a18 ∧ a19 ∧ a20 ∧ a21 ∧ a22 ∧ a23 ∧ a24 ∧ a25 ∧ @LT.lt Nat _ x D) : @LT.lt Nat _ x D := h.2.2.2.2.2.2.2.2.2.2.2.2.2.2.2.2.2.2.2.2.2.2.2.2.2.2
theorem cj27 {a0 a1 a2 a3 a4 a5 a6 a7 a8 a9 a10 a11 a12 a13 a14 a15 a16 a17 a18 a19 a20 a21 a22 a23 a24 a25 a26 b : Prop} (h : a0 ∧ a1 ∧ a2 ∧ a3 ∧ a4 ∧ a5 ∧ a6 ∧ a7 ∧ a8 ∧ a9 ∧ a10 ∧ a11 ∧ a12 ∧ a13 ∧ a14 ∧ a15 ∧ a16 ∧ a17 ∧ a18 ∧ a19 ∧ a20 ∧ a21 ∧ a22 ∧ a23 ∧ a24 ∧ a25 ∧ a26 ∧ @LT.lt Nat _ x D ∧ b) : @LT.lt Nat _ x D := h.2.2.2.2.2.2.2.2.2.2.2.2.2.2.2.2.2.2.2.2.2.2.2.2.2.2.2.1
theorem ck27 {a0 a1 a2 a3 a4 a5 a6 a7 a8 a9 a10 a11 a12 a13 a14 a15 a16 a17 a18 a19 a20 a21 a22 a23 a24 a25 a26 : Prop} (h : a0 ∧ a1 ∧ a2 ∧ a3 ∧ a4 ∧ a5 ∧ a6 ∧ a7 ∧ a8 ∧ a9 ∧ a10 ∧ a11 ∧ a12 ∧ a13 ∧ a14 ∧ a15 ∧ a16 ∧ a17 ∧ a18 ∧ a19 ∧ a20 ∧ a21 ∧ a22 ∧ a23 ∧ a24 ∧ a25 ∧ a26 ∧ @LT.lt Nat _ x D) : @LT.lt Nat _ x D := h.2.2.2.2.2.2.2.2.2.2.2.2.2.2.2.2.2.2.2.2.2.2.2.2.2.2.2
theorem cj28 {a0 a1 a2 a3 a4 a5 a6 a7 a8 a9 a10 a11 a12 a13 a14 a15 a16 a17 a18 a19 a20 a21 a22 a23 a24 a25 a26 a27 b : Prop} (h : a0 ∧ a1 ∧ a2 ∧ a3 ∧ a4 ∧ a5 ∧ a6 ∧ a7 ∧ a8 ∧ a9 ∧ a10 ∧ a11 ∧ a12 ∧ a13 ∧ a14 ∧ a15 ∧ a16 ∧ a17 ∧ a18 ∧ a19 ∧ a20 ∧ a21 ∧ a22 ∧ a23 ∧ a24 ∧ a25 ∧ a26 ∧ a27 ∧ @LT.lt Nat _ x D ∧ b) : @LT.lt Nat _ x D := h.2.2.2.2.2.2.2.2.2.2.2.2.2.2.2.2.2.2.2.2.2.2.2.2.2.2.2.2.1
theorem ck28 {a0 a1 a2 a3 a4 a5 a6 a7 a8 a9 a10 a11 a12 a13 a14 a15 a16 a17 a18 a19 a20 a21 a22 a23 a24 a25 a26 a27 : Prop} (h : a0 ∧ a1 ∧ a2 ∧ a3 ∧ a4 ∧ a5 ∧ a6 ∧ a7 ∧ a8 ∧ a9 ∧ a10 ∧ a11 ∧ a12 ∧ a13 ∧ a14 ∧ a15 ∧ a16 ∧ a17 ∧ a18 ∧ a19 ∧ a20 ∧ a21 ∧ a22 ∧ a23 ∧ a24 ∧ a25 ∧ a26 ∧ a27 ∧ @LT.lt Nat _ x D) : @LT.lt Nat _ x D := h.2.2.2.2.2.2.2.2.2.2.2.2.2.2.2.2.2.2.2.2.2.2.2.2.2.2.2.2
theorem cj29 {a0 a1 a2 a3 a4 a5 a6 a7 a8 a9 a10 a11 a12 a13 a14 a15 a16 a17 a18 a19 a20 a21 a22 a23 a24 a25 a26 a27 a28 b : Prop} (h : a0 ∧ a1 ∧ a2 ∧ a3 ∧ a4 ∧ a5 ∧ a6 ∧ a7 ∧ a8 ∧ a9 ∧ a10 ∧ a11 ∧ a12 ∧ a13 ∧ a14 ∧ a15 ∧ a16 ∧ a17 ∧ a18 ∧ a19 ∧ a20 ∧ a21 ∧ a22 ∧ a23 ∧ a24 ∧ a25 ∧ a26 ∧ a27 ∧ a28 ∧ @LT.lt Nat _ x D ∧ b) : @LT.lt Nat _ x D := h.2.2.2.2.2.2.2.2.2.2.2.2.2.2.2.2.2.2.2.2.2.2.2.2.2.2.2.2.2.1
theorem ck29 {a0 a1 a2 a3 a4 a5 a6 a7 a8 a9 a10 a11 a12 a13 a14 a15 a16 a17 a18 a19 a20 a21 a22 a23 a24 a25 a26 a27 a28 : Prop} (h : a0 ∧ a1 ∧ a2 ∧ a3 ∧ a4 ∧ a5 ∧ a6 ∧ a7 ∧ a8 ∧ a9 ∧ a10 ∧ a11 ∧ a12 ∧ a13 ∧ a14 ∧ a15 ∧ a16 ∧ a17 ∧ a18 ∧ a19 ∧ a20 ∧ a21 ∧ a22 ∧ a23 ∧ a24 ∧ a25 ∧ a26 ∧ a27 ∧ a28 ∧ @LT.lt Nat _ x D) : @LT.lt Nat _ x D := h.2.2.2.2.2.2.2.2.2.2.2.2.2.2.2.2.2.2.2.2.2.2.2.2.2.2.2.2.2
theorem cj30 {a0 a1 a2 a3 a4 a5 a6 a7 a8 a9 a10 a11 a12 a13 a14 a15 a16 a17 a18 a19 a20 a21 a22 a23 a24 a25 a26 a27 a28 a29 b : Prop} (h : a0 ∧ a1 ∧ a2 ∧ a3 ∧ a4 ∧ a5 ∧ a6 ∧ a7 ∧ a8 ∧ a9 ∧ a10 ∧ a11 ∧ a12 ∧ a13 ∧ a14 ∧ a15 ∧ a16 ∧ a17 ∧ a18 ∧ a19 ∧ a20 ∧ a21 ∧ a22 ∧ a23 ∧ a24 ∧ a25 ∧ a26 ∧ a27 ∧ a28 ∧ a29 ∧ @LT.lt Nat _ x D ∧ b) : @LT.lt Nat _ x D := h.2.2.2.2.2.2.2.2.2.2.2.2.2.2.2.2.2.2.2.2.2.2.2.2.2.2.2.2.2.2.1
theorem ck30 {a0 a1 a2 a3 a4 a5 a6 a7 a8 a9 a10 a11 a12 a13 a14 a15 a16 a17 a18 a19 a20 a21 a22 a23 a24 a25 a26 a27 a28 a29 : Prop} (h : a0 ∧ a1 ∧ a2 ∧ a3 ∧ a4 ∧ a5 ∧ a6 ∧ a7 ∧ a8 ∧ a9 ∧ a10 ∧ a11 ∧ a12 ∧ a13 ∧ a14 ∧ a15 ∧ a16 ∧ a17 ∧ a18 ∧ a19 ∧ a20 ∧ a21 ∧ a22 ∧ a23 ∧ a24 ∧ a25 ∧ a26 ∧ a27 ∧ a28 ∧ a29 ∧ @LT.lt Nat _ x D) : @LT.lt Nat _ x D := h.2.2.2.2.2.2.2.2.2.2.2.2.2.2.2.2.2.2.2.2.2.2.2.2.2.2.2.2.2.2
theorem cj31 {a0 a1 a2 a3 a4 a5 a6 a7 a8 a9 a10 a11 a12 a13 a14 a15 a16 a17 a18 a19 a20 a21 a22 a23 a24 a25 a26 a27 a28 a29 a30 b : Prop} (h : a0 ∧ a1 ∧ a2 ∧ a3 ∧ a4 ∧ a5 ∧ a6 ∧ a7 ∧ a8 ∧ a9 ∧ a10 ∧ a11 ∧ a12 ∧ a13 ∧ a14 ∧ a15 ∧ a16 ∧ a17 ∧ a18 ∧ a19 ∧ a20 ∧ a21 ∧ a22 ∧ a23 ∧ a24 ∧ a25 ∧ a26 ∧ a27 ∧ a28 ∧ a29 ∧ a30 ∧ @LT.lt Nat _ x D ∧ b) : @LT.lt Nat _ x D := h.2.2.2.2.2.2.2.2.2.2.2.2.2.2.2.2.2.2.2.2.2.2.2.2.2.2.2.2.2.2.2.1
theorem ck31 {a0 a1 a2 a3 a4 a5 a6 a7 a8 a9 a10 a11 a12 a13 a14 a15 a16 a17 a18 a19 a20 a21 a22 a23 a24 a25 a26 a27 a28 a29 a30 : Prop} (h : a0 ∧ a1 ∧ a2 ∧ a3 ∧ a4 ∧ a5 ∧ a6 ∧ a7 ∧ a8 ∧ a9 ∧ a10 ∧ a11 ∧ a12 ∧ a13 ∧ a14 ∧ a15 ∧ a16 ∧ a17 ∧ a18 ∧ a19 ∧ a20 ∧ a21 ∧ a22 ∧ a23 ∧ a24 ∧ a25 ∧ a26 ∧ a27 ∧ a28 ∧ a29 ∧ a30 ∧ @LT.lt Nat _ x D) : @LT.lt Nat _ x D := h.2.2.2.2.2.2.2.2.2.2.2.2.2.2.2.2.2.2.2.2.2.2.2.2.2.2.2.2.2.2.2
theorem cj32 {a0 a1 a2 a3 a4 a5 a6 a7 a8 a9 a10 a11 a12 a13 a14 a15 a16 a17 a18 a19 a20 a21 a22 a23 a24 a25 a26 a27 a28 a29 a30 a31 b : Prop} (h : a0 ∧ a1 ∧ a2 ∧ a3 ∧ a4 ∧ a5 ∧ a6 ∧ a7 ∧ a8 ∧ a9 ∧ a10 ∧ a11 ∧ a12 ∧ a13 ∧ a14 ∧ a15 ∧ a16 ∧ a17 ∧ a18 ∧ a19 ∧ a20 ∧ a21 ∧ a22 ∧ a23 ∧ a24 ∧ a25 ∧ a26 ∧ a27 ∧ a28 ∧ a29 ∧ a30 ∧ a31 ∧ @LT.lt Nat _ x D ∧ b) : @LT.lt Nat _ x D := h.2.2.2.2.2.2.2.2.2.2.2.2.2.2.2.2.2.2.2.2.2.2.2.2.2.2.2.2.2.2.2.2.1
theorem ck32 {a0 a1 a2 a3 a4 a5 a6 a7 a8 a9 a10 a11 a12 a13 a14 a15 a16 a17 a18 a19 a20 a21 a22 a23 a24 a25 a26 a27 a28 a29 a30 a31 : Prop} (h : a0 ∧ a1 ∧ a2 ∧ a3 ∧ a4 ∧ a5 ∧ a6 ∧ a7 ∧ a8 ∧ a9 ∧ a10 ∧ a11 ∧ a12 ∧ a13 ∧ a14 ∧ a15 ∧ a16 ∧ a17 ∧ a18 ∧ a19 ∧ a20 ∧ a21 ∧ a22 ∧ a23 ∧ a24 ∧ a25 ∧ a26 ∧ a27 ∧ a28 ∧ a29 ∧ a30 ∧ a31 ∧ @LT.lt Nat _ x D) : @LT.lt Nat _ x D := h.2.2.2.2.2.2.2.2.2.2.2.2.2.2.2.2.2.2.2.2.2.2.2.2.2.2.2.2.2.2.2.2
theorem cj33 {a0 a1 a2 a3 a4 a5 a6 a7 a8 a9 a10 a11 a12 a13 a14 a15 a16 a17 a18 a19 a20 a21 a22 a23 a24 a25 a26 a27 a28 a29 a30 a31 a32 b : Prop} (h : a0 ∧ a1 ∧ a2 ∧ a3 ∧ a4 ∧ a5 ∧ a6 ∧ a7 ∧ a8 ∧ a9 ∧ a10 ∧ a11 ∧ a12 ∧ a13 ∧ a14 ∧ a15 ∧ a16 ∧ a17 ∧ a18 ∧ a19 ∧ a20 ∧ a21 ∧ a22 ∧ a23 ∧ a24 ∧ a25 ∧ a26 ∧ a27 ∧ a28 ∧ a29 ∧ a30 ∧ a31 ∧ a32 ∧ @LT.lt Nat _ x D ∧ b) : @LT.lt Nat _ x D := h.2.2.2.2.2.2.2.2.2.2.2.2.2.2.2.2.2.2.2.2.2.2.2.2.2.2.2.2.2.2.2.2.2.1
theorem ck33 {a0 a1 a2 a3 a4 a5 a6 a7 a8 a9 a10 a11 a12 a13 a14 a15 a16 a17 a18 a19 a20 a21 a22 a23 a24 a25 a26 a27 a28 a29 a30 a31 a32 : Prop} (h : a0 ∧ a1 ∧ a2 ∧ a3 ∧ a4 ∧ a5 ∧ a6 ∧ a7 ∧ a8 ∧ a9 ∧ a10 ∧ a11 ∧ a12 ∧ a13 ∧ a14 ∧ a15 ∧ a16 ∧ a17 ∧ a18 ∧ a19 ∧ a20 ∧ a21 ∧ a22 ∧ a23 ∧ a24 ∧ a25 ∧ a26 ∧ a27 ∧ a28 ∧ a29 ∧ a30 ∧ a31 ∧ a32 ∧ @LT.lt Nat _ x D) : @LT.lt Nat _ x D := h.2.2.2.2.2.2.2.2.2.2.2.2.2.2.2.2.2.2.2.2.2.2.2.2.2.2.2.2.2.2.2.2.2
end
theorem ne_l {x D : Addr} (h : @LT.lt Nat _ x D) : x ≠ D := Nat.ne_of_lt h
theorem ne_g {x D : Addr} (h : @LT.lt Nat _ x D) : D ≠ x := Nat.ne_of_gt h
local macro_rules | `(tactic| k_ne) => `(tactic| first | k_extra "m_ne" | (refine neN ?_; (try dsimp only); omega))
theorem lines4 : True := by
  (k_with "m_ne" => first | exact ne_l (by with_reducible assumption) | exact ne_g (by with_reducible assumption) | exact ne_l (cj0 (by with_reducible assumption)) | exact ne_g (cj0 (by with_reducible assumption)) | exact ne_l (cj1 (by with_reducible assumption)) | exact ne_g (cj1 (by with_reducible assumption)) | exact ne_l (ck1 (by with_reducible assumption)) | exact ne_g (ck1 (by with_reducible assumption)) | exact ne_l (cj2 (by with_reducible assumption)) | exact ne_g (cj2 (by with_reducible assumption)) | exact ne_l (ck2 (by with_reducible assumption)) | exact ne_g (ck2 (by with_reducible assumption)) | exact ne_l (cj3 (by with_reducible assumption)) | exact ne_g (cj3 (by with_reducible assumption)) | exact ne_l (ck3 (by with_reducible assumption)) | exact ne_g (ck3 (by with_reducible assumption)) | exact ne_l (cj4 (by with_reducible assumption)) | exact ne_g (cj4 (by with_reducible assumption)) | exact ne_l (ck4 (by with_reducible assumption)) | exact ne_g (ck4 (by with_reducible assumption)) | exact ne_l (cj5 (by with_reducible assumption)) | exact ne_g (cj5 (by with_reducible assumption)) | exact ne_l (ck5 (by with_reducible assumption)) | exact ne_g (ck5 (by with_reducible assumption)) | exact ne_l (cj6 (by with_reducible assumption)) | exact ne_g (cj6 (by with_reducible assumption)) | exact ne_l (ck6 (by with_reducible assumption)) | exact ne_g (ck6 (by with_reducible assumption)) | exact ne_l (cj7 (by with_reducible assumption)) | exact ne_g (cj7 (by with_reducible assumption)) | exact ne_l (ck7 (by with_reducible assumption)) | exact ne_g (ck7 (by with_reducible assumption)) | exact ne_l (cj8 (by with_reducible assumption)) | exact ne_g (cj8 (by with_reducible assumption)) | exact ne_l (ck8 (by with_reducible assumption)) | exact ne_g (ck8 (by with_reducible assumption)) | exact ne_l (cj9 (by with_reducible assumption)) | exact ne_g (cj9 (by with_reducible assumption)) | exact ne_l (ck9 (by with_reducible assumption)) | exact ne_g (ck9 (by with_reducible assumption)) | exact ne_l (cj10 (by with_reducible assumption)) | exact ne_g (cj10 (by with_reducible assumption)) | exact ne_l (ck10 (by with_reducible assumption)) | exact ne_g (ck10 (by with_reducible assumption)) | exact ne_l (cj11 (by with_reducible assumption)) | exact ne_g (cj11 (by with_reducible assumption)) | exact ne_l (ck11 (by with_reducible assumption)) | exact ne_g (ck11 (by with_reducible assumption)) | exact ne_l (cj12 (by with_reducible assumption)) | exact ne_g (cj12 (by with_reducible assumption)) | exact ne_l (ck12 (by with_reducible assumption)) | exact ne_g (ck12 (by with_reducible assumption)) | exact ne_l (cj13 (by with_reducible assumption)) | exact ne_g (cj13 (by with_reducible assumption)) | exact ne_l (ck13 (by with_reducible assumption)) | exact ne_g (ck13 (by with_reducible assumption)) | exact ne_l (cj14 (by with_reducible assumption)) | exact ne_g (cj14 (by with_reducible assumption)) | exact ne_l (ck14 (by with_reducible assumption)) | exact ne_g (ck14 (by with_reducible assumption)) | exact ne_l (cj15 (by with_reducible assumption)) | exact ne_g (cj15 (by with_reducible assumption)) | exact ne_l (ck15 (by with_reducible assumption)) | exact ne_g (ck15 (by with_reducible assumption)) | exact ne_l (cj16 (by with_reducible assumption)) | exact ne_g (cj16 (by with_reducible assumption)) | exact ne_l (ck16 (by with_reducible assumption)) | exact ne_g (ck16 (by with_reducible assumption)) | exact ne_l (cj17 (by with_reducible assumption)) | exact ne_g (cj17 (by with_reducible assumption)) | exact ne_l (ck17 (by with_reducible assumption)) | exact ne_g (ck17 (by with_reducible assumption)) | exact ne_l (cj18 (by with_reducible assumption)) | exact ne_g (cj18 (by with_reducible assumption)) | exact ne_l (ck18 (by with_reducible assumption)) | exact ne_g (ck18 (by with_reducible assumption)) | exact ne_l (cj19 (by with_reducible assumption)) | exact ne_g (cj19 (by with_reducible assumption)) | exact ne_l (ck19 (by with_reducible assumption)) | exact ne_g (ck19 (by with_reducible assumption)) | exact ne_l (cj20 (by with_reducible assumption)) | exact ne_g (cj20 (by with_reducible assumption)) | exact ne_l (ck20 (by with_reducible assumption)) | exact ne_g (ck20 (by with_reducible assumption)) | exact ne_l (cj21 (by with_reducible assumption)) | exact ne_g (cj21 (by with_reducible assumption)) | exact ne_l (ck21 (by with_reducible assumption)) | exact ne_g (ck21 (by with_reducible assumption)) | exact ne_l (cj22 (by with_reducible assumption)) | exact ne_g (cj22 (by with_reducible assumption)) | exact ne_l (ck22 (by with_reducible assumption)) | exact ne_g (ck22 (by with_reducible assumption)) | exact ne_l (cj23 (by with_reducible assumption)) | exact ne_g (cj23 (by with_reducible assumption)) | exact ne_l (ck23 (by with_reducible assumption)) | exact ne_g (ck23 (by with_reducible assumption)) | exact ne_l (cj24 (by with_reducible assumption)) | exact ne_g (cj24 (by with_reducible assumption)) | exact ne_l (ck24 (by with_reducible assumption)) | exact ne_g (ck24 (by with_reducible assumption)) | exact ne_l (cj25 (by with_reducible assumption)) | exact ne_g (cj25 (by with_reducible assumption)) | exact ne_l (ck25 (by with_reducible assumption)) | exact ne_g (ck25 (by with_reducible assumption)) | exact ne_l (cj26 (by with_reducible assumption)) | exact ne_g (cj26 (by with_reducible assumption)) | exact ne_l (ck26 (by with_reducible assumption)) | exact ne_g (ck26 (by with_reducible assumption)) | exact ne_l (cj27 (by with_reducible assumption)) | exact ne_g (cj27 (by with_reducible assumption)) | exact ne_l (ck27 (by with_reducible assumption)) | exact ne_g (ck27 (by with_reducible assumption)) | exact ne_l (cj28 (by with_reducible assumption)) | exact ne_g (cj28 (by with_reducible assumption)) | exact ne_l (ck28 (by with_reducible assumption)) | exact ne_g (ck28 (by with_reducible assumption)) | exact ne_l (cj29 (by with_reducible assumption)) | exact ne_g (cj29 (by with_reducible assumption)) | exact ne_l (ck29 (by with_reducible assumption)) | exact ne_g (ck29 (by with_reducible assumption)) | exact ne_l (cj30 (by with_reducible assumption)) | exact ne_g (cj30 (by with_reducible assumption)) | exact ne_l (ck30 (by with_reducible assumption)) | exact ne_g (ck30 (by with_reducible assumption)) | exact ne_l (cj31 (by with_reducible assumption)) | exact ne_g (cj31 (by with_reducible assumption)) | exact ne_l (ck31 (by with_reducible assumption)) | exact ne_g (ck31 (by with_reducible assumption)) | exact ne_l (cj32 (by with_reducible assumption)) | exact ne_g (cj32 (by with_reducible assumption)) | exact ne_l (ck32 (by with_reducible assumption)) | exact ne_g (ck32 (by with_reducible assumption)) | exact ne_l (cj33 (by with_reducible assumption)) | exact ne_g (cj33 (by with_reducible assumption)) | exact ne_l (ck33 (by with_reducible assumption)) | exact ne_g (ck33 (by with_reducible assumption)))
  trivial
-- Om
theorem lines5 : True := by
  w_top off
  trivial
theorem rm0 {dp b c R : Nat} (h : dp + b < R) (e : c ≤ b) : dp + c < R := Nat.lt_of_le_of_lt (Nat.add_le_add_left e dp) h
theorem rmj {dp b j c R : Nat} (h : dp + b < R) (e : j + c ≤ b) : dp + j + c < R := Nat.lt_of_le_of_lt (Nat.add_assoc dp j c ▸ Nat.add_le_add_left e dp) h
theorem rmz {dp b R : Nat} (h : dp + b < R) : dp < R := Nat.lt_of_le_of_lt (Nat.le_add_right dp b) h
local macro_rules | `(tactic| ktr_room) => `(tactic| first | exact rm0 (by with_reducible assumption) (by decide) | exact rmj (j := 1) (by with_reducible assumption) (by decide) | exact rmz (by with_reducible assumption))
local macro_rules | `(tactic| ktr_units) => `(tactic| first | exact rm0 (by with_reducible assumption) (by decide) | exact rmj (j := 3) (by with_reducible assumption) (by decide) | exact rmj (j := 4) (by with_reducible assumption) (by decide))
local macro_rules | `(tactic| omega) => `(tactic| first | ((with_reducible show @LT.lt Int _ _ _); decide) | (simp only [Nat.reduceAdd, Nat.reduceLeDiff]; done) | with_reducible exact rmj (j := 3) (by with_reducible assumption) (by decide) | omega +splitDisjunctions)
-- Ql
theorem lines6 : True := by
  w_top off
  trivial
theorem q_let {α : Type} {M : Model} {A : Around} {x : Sem α} {Q : α → Shared → Prop} {E : Value → Shared → Prop} {s : Shared} (h : let q := Q; wpAny M A x q E s) : wpAny M A x Q E s := h
theorem lines7 : True := by
  (k_with "execs cons" => (k_here; first | k_gentoks | ((with_reducible refine wpAny_execs_cons ?_); (try dsimp only); (refine q_let ?_); intro q')))
  trivial
-- On
theorem lines8 : True := by
  w_top off
  trivial
section
variable {x y L : Addr} {a b c d : Prop}
theorem nq1 (h : a ∧ ((x ≠ y ∧ b) ∧ c)) : y ≠ x := h.2.1.1.symm
theorem nq2 (h : a ∧ ((b ∧ x ≠ y ∧ d) ∧ c)) : y ≠ x := h.2.1.2.1.symm
theorem nq3 (h : a ∧ ((b ∧ d ∧ x ≠ y) ∧ c)) : y ≠ x := h.2.1.2.2.symm
theorem np1 (h : (x ≠ y ∧ b) ∧ c) : y ≠ x := h.1.1.symm
theorem np2 (h : (b ∧ x ≠ y ∧ d) ∧ c) : y ≠ x := h.1.2.1.symm
theorem np3 (h : (b ∧ d ∧ x ≠ y) ∧ c) : y ≠ x := h.1.2.2.symm
theorem nr1 (h : x ≠ y ∧ c) : y ≠ x := h.1.symm
theorem nr2 (h : a ∧ x ≠ y ∧ c) : y ≠ x := h.2.1.symm
theorem ns1 (h : @LT.lt Nat _ x L ∧ b) : L + 1 ≠ x := Nat.ne_of_gt (Nat.lt_succ_of_lt h.1)
end
theorem mn_lo {r k : Int} (e : r = 256 * k) (h : 0 ≤ k) : 0 ≤ r := by omega
theorem mn_hi {r k : Int} (e : r = 256 * k) (h : k < 256) : r < 65536 := by omega
theorem mn_hi' {r k : Int} (e : r = 256 * k) (h : k ≤ 255) : r < 65536 := by omega
theorem mn_le {r : Int} (h : r ≤ 255) : r < 256 := by omega
local macro_rules | `(tactic| k_ne) => `(tactic| first | with_reducible exact nq1 (by assumption) | with_reducible exact nq2 (by assumption) | with_reducible exact nq3 (by assumption) | with_reducible exact np1 (by assumption) | with_reducible exact np2 (by assumption) | with_reducible exact np3 (by assumption) | with_reducible exact nr1 (by assumption) | with_reducible exact nr2 (by assumption) | with_reducible exact ns1 (by assumption))
theorem lines9 : True := by
  (k_with "m_num" => first | with_reducible exact mn_le (by assumption) | with_reducible exact mn_lo (by assumption) (by assumption) | with_reducible exact mn_hi (by assumption) (by assumption) | with_reducible exact mn_hi' (by assumption) (by assumption))
  trivial
-- Op
theorem lines10 : True := by
  w_top off
  trivial
theorem lt_down {x y D : Addr} {b : Prop} (h : @LT.lt Nat _ y D ∧ b) (k : @LT.lt Nat _ y D ∧ b → @LT.lt Nat _ x D) : @LT.lt Nat _ x D := k h
theorem dn {a b c : Prop} (k : b → c) : a ∧ b → c := fun h => k h.2
local macro_rules | `(tactic| k_ne) => `(tactic| first | with_reducible exact ne_g (lt_down (by assumption) (by k_extra "m_down")) | with_reducible exact ne_l (lt_down (by assumption) (by k_extra "m_down")))
theorem lines11 : True := by
  (k_with "m_down" => ((repeat (first | with_reducible exact And.left | with_reducible exact id | with_reducible refine dn ?_)); done))
  trivial
-- T1
theorem lines12 : True := by
  w_top off
  trivial
def IsSrc (o : Obj) : Prop := ∃ (x y : Int) (tx ty : Tok) (n : Nat), o = listOf [.int x tx, .int y ty].toArray n ∧ 0 ≤ x ∧ 0 ≤ y ∧ y < 2147483647
theorem IsSrc.mk {x y : Int} {tx ty : Tok} {n : Nat} (hx : 0 ≤ x) (hy : 0 ≤ y) (hy2 : y < 2147483647) : IsSrc (listOf [.int x tx, .int y ty].toArray n) := ⟨x, y, tx, ty, n, rfl, hx, hy, hy2⟩
/-- what a call of the def at f with the arguments vs does, from a ledger to a ledger -/
def Ctr (w : World) (mean : ExcName → Option Value) (mg mb : Str → Option Value) (dd : Nat) (f : Addr) (vs : List Value) (news : List (Addr × Obj)) (R : Value → List (Addr × Obj) → Prop) : Prop :=
  ∀ (dp un : Nat) (gd : Option (List Code)) (cn : Str) (cs : Scope) (a : Addr) (ccd : Value) (cl : List (Str × Addr)) (outer : List Env) (A₀ : Around) (base h₀ : Heap) (L : Addr) (m : Str → Option Value) (s : Shared) (Q E : Value → Shared → Prop),
   Below A₀ base outer h₀ → Fr h₀ L s.heap m → (Mine.hd.heap_1 w.params).In h₀ → News h₀ L s.heap news → Top Mine.view (looseW Mine.view [Str.ofString "Bpdu"]) mean mg mb h₀ → cs.kind = .function →
   dp + dd < recursionLimit → un + 8 * dd < cLine →
   (∀ (v : Value) (news' : List (Addr × Obj)) (h' : Heap) (tk' : Nat), R v news' → Fr h₀ L h' m → News h₀ L h' news' → Q v { s with heap := h', toks := tk' }) →
   wpAny (model (PySem.Challenge.rw_xm0978_01.prog) w) (ktrTop dp un gd cn cs L a ccd cl outer) (call (.ref f) vs) Q E s
theorem Ctr.mono {w : World} {mean : ExcName → Option Value} {mg mb : Str → Option Value} {dd : Nat} {f : Addr} {vs : List Value} {news : List (Addr × Obj)} {R R' : Value → List (Addr × Obj) → Prop}
   (h : Ctr w mean mg mb dd f vs news R) (hR : ∀ v n, R v n → R' v n) : Ctr w mean mg mb dd f vs news R' :=
  fun dp un gd cn cs a ccd cl outer A₀ base h₀ L m s Q E B F X N T hk hd hu hret => h dp un gd cn cs a ccd cl outer A₀ base h₀ L m s Q E B F X N T hk hd hu fun v n h' t r => hret v n h' t (hR _ _ r)
/-- a def that turns the one object at src: from the ledger's head to any place of it -/
theorem Ctr.place {w : World} {mean : ExcName → Option Value} {mg mb : Str → Option Value} {dd : Nat} {f src : Addr} {o : Obj} {vs : List Value} {news : List (Addr × Obj)} {g : Obj → List (Addr × Obj)} {P : Value → List (Addr × Obj) → Obj → Prop}
   (U : UpdF src o news g)
   (h : ∀ rest, (∀ p ∈ rest, p.1 ≠ src) → (∀ p ∈ rest, p ∈ news) → (∀ p ∈ news, p = (src, o) ∨ p ∈ rest) → Ctr w mean mg mb dd f vs ((src, o) :: rest) (fun v news' => ∃ ex o', P v ex o' ∧ news' = ex ++ (src, o') :: rest)) :
   Ctr w mean mg mb dd f vs news (fun v news' => ∃ ex o', P v ex o' ∧ news' = ex ++ g o') := by
  obtain ⟨pre, post, e1, e2, h1, h2⟩ := U.split
  intro dp un gd cn cs a ccd cl outer A₀ base h₀ L m s Q E B F X N T hk hd hu hret
  subst e1
  refine h (pre ++ post) ?_ ?_ ?_ dp un gd cn cs a ccd cl outer A₀ base h₀ L m s Q E B F X ?_ T hk hd hu ?_
  · intro p hp; rcases List.mem_append.mp hp with hp | hp; exact h1 p hp; exact h2 p hp
  · intro p hp; rcases List.mem_append.mp hp with hp | hp
    · exact List.mem_append.mpr (.inl hp)
    · exact List.mem_append.mpr (.inr (.tail _ hp))
  · intro p hp; rcases List.mem_append.mp hp with hp | hp
    · exact .inr (List.mem_append.mpr (.inl hp))
    · rcases List.mem_cons.mp hp with hp | hp
      · exact .inl hp
      · exact .inr (List.mem_append.mpr (.inr hp))
  · intro p hp
    refine N p ?_
    rcases List.mem_cons.mp hp with rfl | hp
    · exact List.mem_append.mpr (.inr (.head _))
    · rcases List.mem_append.mp hp with hp | hp
      · exact List.mem_append.mpr (.inl hp)
      · exact List.mem_append.mpr (.inr (.tail _ hp))
  · rintro v news' h' tk' ⟨ex, o', hP, rfl⟩ F' N'
    refine hret v _ h' tk' ⟨ex, o', hP, rfl⟩ F' ?_
    intro p hp
    refine N' p ?_
    rcases List.mem_append.mp hp with hp | hp
    · exact List.mem_append.mpr (.inl hp)
    · rw [e2] at hp
      refine List.mem_append.mpr (.inr ?_)
      rcases List.mem_append.mp hp with hp | hp
      · exact .tail _ (List.mem_append.mpr (.inl hp))
      · rcases List.mem_cons.mp hp with rfl | hp
        · exact .head _
        · exact .tail _ (List.mem_append.mpr (.inr hp))
set_option maxHeartbeats 8000000 in
theorem take_c (w : World) (mean : ExcName → Option Value) (mg mb : Str → Option Value) (src : Addr) (o : Obj) (tt : Tok) (top : Int) (rest : List (Addr × Obj))
   (ho : IsSrc o) (ht : 1 ≤ top) (ht2 : top ≤ 1000000) (hrest : ∀ p ∈ rest, p.1 ≠ src) :
   Ctr w mean mg mb 1 210 [.ref src, .int top tt] ((src, o) :: rest) (fun v news' => ∃ ex o', ((∃ (r : Int) (t : Tok), v = .int r t ∧ 0 ≤ r ∧ r < top) ∧ IsSrc o' ∧ ex = []) ∧ news' = ex ++ (src, o') :: rest) := by
  have hfill : PySem.Challenge.rw_xm0978_01 = PySem.Challenge.rw_xm0978_01 ∧ Mine.hd.heap_1 = Mine.hd.heap_1 := by
    k_fill
    exact ⟨rfl, rfl⟩
  clear hfill
  obtain ⟨x, y, tx, ty, n, rfl, hx, hy, hy2⟩ := ho
  unfold Ctr
  intro dp un gd cn cs a ccd cl outer A₀ base h₀ L m s Q E B F X N T hk hdp hun hret
  refine wpAny_call ?_
  k_dflt cell_enter
  k_steps
  all_goals (refine hret _ _ _ _ ⟨[], _, ⟨⟨_, _, rfl, ?_, ?_⟩, IsSrc.mk ?_ ?_ ?_, rfl⟩, rfl⟩ (by assumption) (by assumption) <;> first | assumption | omega)
-- T2
theorem lines13 : True := by
  w_top off
  trivial
section
variable {prog : Program} {w : World} {A : Around} {E : Value → Shared → Prop} {s : Shared} {h₀ : Heap} {L D : Addr} {m : Str → Option Value} {news news' : List (Addr × Obj)}
/-- an item of a list of known items at a place known by its bounds -/
theorem it_any {value slice : PySem.Expr} {l : List Value} {n : Nat} {k : Int} {u : Tok} {P : Value → Prop} {Q : Value → Shared → Prop}
   (N : News h₀ L s.heap news) (hm : (D, listOf l.toArray n) ∈ news) (h0 : 0 ≤ k) (hk : k < l.length) (hhi : k < 2 ^ 63) (hP : ∀ v ∈ l, P v) (h : ∀ v, P v → Q v s)
   (hs : subscripted slice false (.ref D) (.int k u) = operate [.ref D, .int k u] (getItem (.ref D) (.int k u)) := by with_unfolding_all rfl) :
   wpAny (model prog w) A (subscriptTail value slice (.ref D) (.int k u)) Q E s := by
  have hj : k.toNat < l.length := by omega
  have hL := PySem.IsL.isList (n := n) (N _ hm).1
  exact tail_any hL.typeIs slot_list_getitem.lookup (wpAny_getItem_list hL h0 hhi (x := l[k.toNat]) (by simp [List.getElem?_eq_getElem hj]) (h _ (hP _ (List.getElem_mem hj)))) hs
theorem len_led {l : List Value} {n : Nat} {Q : Value → Shared → Prop} (N : News h₀ L s.heap news) (hm : (D, listOf l.toArray n) ∈ news) (hk : l.length ≤ 1000000)
   (h : Q (.int l.length (s.toks + 1)) { s with toks := s.toks + 1 + 1 }) : wpAny (model prog w) A (call (.builtin "len") [.ref D]) Q E s :=
  len_list (PySem.IsL.isList (n := n) (N _ hm).1) (by rw [List.size_toArray]; omega) (by rw [List.size_toArray]; exact h)
end
/-- the use of a contract in the walk of a def -/
theorem Ctr.use {w : World} {mean : ExcName → Option Value} {mg mb : Str → Option Value} {dd : Nat} {f : Addr} {vs : List Value} {news : List (Addr × Obj)} {R : Value → List (Addr × Obj) → Prop}
  {dp un : Nat} {gd : Option (List Code)} {cn : Str} {cs : Scope} {a : Addr} {ccd : Value} {cl : List (Str × Addr)} {outer : List Env} {A₀ : Around} {base h₀ : Heap} {L : Addr} {m : Str → Option Value} {s : Shared} {Q E : Value → Shared → Prop}
  (C : Ctr w mean mg mb dd f vs news R) (B : Below A₀ base outer h₀) (F : Fr h₀ L s.heap m) (X : (Mine.hd.heap_1 w.params).In h₀) (N : News h₀ L s.heap news) (T : Top Mine.view (looseW Mine.view [Str.ofString "Bpdu"]) mean mg mb h₀) (hk : cs.kind = .function)
  (hd : dp + dd < recursionLimit) (hu : un + 8 * dd < cLine)
  (ret : ∀ (v : Value) (news' : List (Addr × Obj)) (h' : Heap) (tk' : Nat), R v news' → Fr h₀ L h' m → News h₀ L h' news' → Q v { s with heap := h', toks := tk' }) :
  wpAny (model (PySem.Challenge.rw_xm0978_01.prog) w) (ktrTop dp un gd cn cs L a ccd cl outer) (call (.ref f) vs) Q E s :=
  C dp un gd cn cs a ccd cl outer A₀ base h₀ L m s Q E B F X N T hk hd hu ret
section
variable {w : World} {mean : ExcName → Option Value} {mg mb : Str → Option Value}
  {dp un : Nat} {gd : Option (List Code)} {cn : Str} {cs : Scope} {a : Addr} {ccd : Value} {cl : List (Str × Addr)} {outer : List Env} {A₀ : Around} {base h₀ : Heap} {L : Addr} {m : Str → Option Value} {s : Shared} {Q E : Value → Shared → Prop}
  {news : List (Addr × Obj)} {src : Addr} {o : Obj} {g : Obj → List (Addr × Obj)}
theorem take_use {tt : Tok} {top : Int} (B : Below A₀ base outer h₀) (F : Fr h₀ L s.heap m) (X : (Mine.hd.heap_1 w.params).In h₀) (N : News h₀ L s.heap news) (T : Top Mine.view (looseW Mine.view [Str.ofString "Bpdu"]) mean mg mb h₀) (hk : cs.kind = .function)
  (U : UpdF src o news g) (ho : IsSrc o) (ht : 1 ≤ top) (ht2 : top ≤ 1000000) (hd : dp + 1 < recursionLimit) (hu : un + 8 * 1 < cLine)
  (ret : ∀ (r : Int) (t : Tok) (o' : Obj) (h' : Heap) (tk' : Nat), 0 ≤ r → r < top → IsSrc o' → Fr h₀ L h' m → News h₀ L h' (g o') → Q (.int r t) { s with heap := h', toks := tk' }) :
  wpAny (model (PySem.Challenge.rw_xm0978_01.prog) w) (ktrTop dp un gd cn cs L a ccd cl outer) (call (.ref 210) [.ref src, .int top tt]) Q E s := by
  refine Ctr.use (Ctr.place U fun rest h1 h2 h3 => take_c _ _ _ _ _ _ _ _ rest ho ht ht2 h1) B F X N T hk hd hu ?_
  rintro _ _ h' tk' ⟨_, o', ⟨⟨r', t', rfl, ra', rb'⟩, ro', rfl⟩, rfl⟩ F' N'
  exact ret r' t' o' h' tk' ra' rb' ro' F' N'
end
theorem lines14 : True := by
  (k_with "call ref" => (k_here; (with_reducible show wpAny _ _ (call (Value.ref 210) [Value.ref _, Value.int _ _]) _ _ _); k_dflt (refine' take_use ?z12k1 ?z12k2 ?z12k3 ?z12k4 ?z12k5 ?z12k6 ?z12U ?z12o ?z12t1 ?z12t2 ?z12k7 ?z12k8 ?_; (case z12k1 => k_asm); (case z12k2 => k_asm); (case z12k3 => k_asm); (case z12k4 => k_asm); (case z12k5 => k_asm); (case z12k6 => first | exact rfl | assumption); (case z12U => k_updF); (case z12o => assumption); (case z12t1 => k_extra "m_num"); (case z12t2 => k_extra "m_num"); (case z12k7 => ktr_room); (case z12k8 => ktr_units)); intro r' t' o' h' tk' ra' rb' ro' F' N'; (try dsimp only [List.nil_append] at N'); (try dsimp only); (try k_sweep)))
  (k_with "m_len" => first | omega | decide | (simp only [List.length_cons, List.length_nil]; done) | (simp only [List.length_cons, List.length_nil]; omega))
  (k_with "call builtin:len cons nil" => (k_here; (with_reducible show wpAny _ _ (call (Value.builtin "len") [Value.ref _]) _ _ _); k_dflt (refine' len_led ?z14k1 ?z14k2 ?z14k3 ?_; (case z14k1 => k_asm); (case z14k2 => k_mem); (case z14k3 => k_extra "m_len"); k_whole)))
  (k_with "subscriptTail Name Call ref int" => (k_here; (with_reducible show wpAny _ _ (subscriptTail _ _ (Value.ref _) (Value.int _ _)) _ _ _); k_dflt (refine' it_any ?z15k1 ?z15k2 ?z15k3 ?z15k4 ?z15k5 ?z15k7 ?_ ?z15k6; (case z15k1 => k_asm); (case z15k2 => k_mem); (case z15k3 => k_extra "m_num"); (case z15k4 => k_extra "m_len"); (case z15k5 => omega); (case z15k7 => assumption); (case z15k6 => with_unfolding_all rfl); k_whole); intro v' pv'))
  trivial
set_option maxHeartbeats 8000000 in
theorem one_c (w : World) (mean : ExcName → Option Value) (mg mb : Str → Option Value) (src lst : Addr) (o : Obj) (vals : List Value) (n : Nat) (P : Value → Prop) (rest : List (Addr × Obj))
   (ho : IsSrc o) (hP : ∀ v ∈ vals, P v) (ht : 1 ≤ vals.length) (ht2 : vals.length ≤ 1000) (hl : (lst, listOf vals.toArray n) ∈ rest) (hrest : ∀ p ∈ rest, p.1 ≠ src) :
   Ctr w mean mg mb 2 217 [.ref src, .ref lst] ((src, o) :: rest) (fun v news' => ∃ ex o', (P v ∧ IsSrc o' ∧ ex = []) ∧ news' = ex ++ (src, o') :: rest) := by
  have hfill : PySem.Challenge.rw_xm0978_01 = PySem.Challenge.rw_xm0978_01 ∧ Mine.hd.heap_1 = Mine.hd.heap_1 := by
    k_fill
    exact ⟨rfl, rfl⟩
  clear hfill
  unfold Ctr
  intro dp un gd cn cs a ccd cl outer A₀ base h₀ L m s Q E B F X N T hk hdp hun hret
  refine wpAny_call ?_
  k_dflt cell_enter
  k_steps
  all_goals exact hret _ _ _ _ ⟨[], _, ⟨by assumption, by assumption, rfl⟩, rfl⟩ (by assumption) (by assumption)
-- T3
theorem lines15 : True := by
  w_top off
  trivial
def IntIn (lo hi : Int) (v : Value) : Prop := ∃ (z : Int) (t : Tok), v = .int z t ∧ lo ≤ z ∧ z ≤ hi
section
variable {w : World} {mean : ExcName → Option Value} {mg mb : Str → Option Value}
  {dp un : Nat} {gd : Option (List Code)} {cn : Str} {cs : Scope} {a : Addr} {ccd : Value} {cl : List (Str × Addr)} {outer : List Env} {A₀ : Around} {base h₀ : Heap} {L : Addr} {m : Str → Option Value} {s : Shared} {Q E : Value → Shared → Prop}
  {news : List (Addr × Obj)} {src lst : Addr} {o : Obj} {g : Obj → List (Addr × Obj)} {vals : List Value} {n : Nat}
theorem one_use (P : Value → Prop) (B : Below A₀ base outer h₀) (F : Fr h₀ L s.heap m) (X : (Mine.hd.heap_1 w.params).In h₀) (N : News h₀ L s.heap news) (T : Top Mine.view (looseW Mine.view [Str.ofString "Bpdu"]) mean mg mb h₀) (hk : cs.kind = .function)
  (U : UpdF src o news g) (ho : IsSrc o) (hm : (lst, listOf vals.toArray n) ∈ news) (hne : lst ≠ src) (hP : ∀ v ∈ vals, P v) (ht : 1 ≤ vals.length) (ht2 : vals.length ≤ 1000) (hd : dp + 2 < recursionLimit) (hu : un + 8 * 2 < cLine)
  (ret : ∀ (v : Value) (o' : Obj) (h' : Heap) (tk' : Nat), P v → IsSrc o' → Fr h₀ L h' m → News h₀ L h' (g o') → Q v { s with heap := h', toks := tk' }) :
  wpAny (model (PySem.Challenge.rw_xm0978_01.prog) w) (ktrTop dp un gd cn cs L a ccd cl outer) (call (.ref 217) [.ref src, .ref lst]) Q E s := by
  refine Ctr.use (Ctr.place U fun rest h1 h2 h3 => one_c _ _ _ _ _ lst _ vals n P rest ho hP ht ht2 ?_ h1) B F X N T hk hd hu ?_
  · rcases h3 _ hm with e | e
    · exact absurd (congrArg Prod.fst e) hne
    · exact e
  · rintro _ _ h' tk' ⟨_, o', ⟨pv, ro', rfl⟩, rfl⟩ F' N'
    exact ret _ o' h' tk' pv ro' F' N'
theorem one_int (lo hi : Int) (B : Below A₀ base outer h₀) (F : Fr h₀ L s.heap m) (X : (Mine.hd.heap_1 w.params).In h₀) (N : News h₀ L s.heap news) (T : Top Mine.view (looseW Mine.view [Str.ofString "Bpdu"]) mean mg mb h₀) (hk : cs.kind = .function)
  (U : UpdF src o news g) (ho : IsSrc o) (hm : (lst, listOf vals.toArray n) ∈ news) (hne : lst ≠ src) (hP : ∀ v ∈ vals, IntIn lo hi v) (ht : 1 ≤ vals.length) (ht2 : vals.length ≤ 1000) (hd : dp + 2 < recursionLimit) (hu : un + 8 * 2 < cLine)
  (ret : ∀ (z : Int) (t : Tok) (o' : Obj) (h' : Heap) (tk' : Nat), lo ≤ z → z ≤ hi → IsSrc o' → Fr h₀ L h' m → News h₀ L h' (g o') → Q (.int z t) { s with heap := h', toks := tk' }) :
  wpAny (model (PySem.Challenge.rw_xm0978_01.prog) w) (ktrTop dp un gd cn cs L a ccd cl outer) (call (.ref 217) [.ref src, .ref lst]) Q E s := by
  refine one_use (IntIn lo hi) B F X N T hk U ho hm hne hP ht ht2 hd hu ?_
  rintro _ o' h' tk' ⟨z, t, rfl, h1, h2⟩ ro' F' N'
  exact ret z t o' h' tk' h1 h2 ro' F' N'
end
theorem m_sub_cons {α : Type} {a : α} {l big : List α} (h : a ∈ big) (hs : ∀ p ∈ l, p ∈ big) : ∀ p ∈ a :: l, p ∈ big := List.forall_mem_cons.mpr ⟨h, hs⟩
theorem m_sub_skip {α : Type} {a : α} {l big : List α} (hs : ∀ p ∈ l, p ∈ big) : ∀ p ∈ l, p ∈ a :: big := fun p hp => .tail _ (hs p hp)
theorem lines16 : True := by
  (k_with "m_sub" => first | exact List.forall_mem_nil _ | with_reducible exact fun _ h => h | (with_reducible refine' m_sub_cons ?z16h ?z16t; (case z16h => k_mem); (case z16t => k_extra "m_sub")) | (with_reducible refine m_sub_skip ?_; k_extra "m_sub"))
  (k_with "m_lt" => first | exact True.intro | (refine And.intro (by show @LT.lt Nat _ _ _; (try dsimp only); omega) ?_; k_extra "m_lt") | assumption | (simp only [*]; done))
  (k_with "m_ints" => first | exact List.forall_mem_nil _ | (refine List.forall_mem_cons.mpr ⟨⟨_, _, rfl, by k_extra "m_num", by k_extra "m_num"⟩, ?_⟩; k_extra "m_ints"))
  (k_with "call ref" => (k_here; (with_reducible show wpAny _ _ (call (Value.ref 217) [Value.ref _, Value.ref _]) _ _ _); k_dflt (first
  | (refine' one_int 0 255 ?z19k1 ?z19k2 ?z19k3 ?z19k4 ?z19k5 ?z19k6 ?z19U ?z19o ?z19m ?z19ne ?z19P ?z19t1 ?z19t2 ?z19k7 ?z19k8 ?_; (case z19k4 => k_asm); (case z19m => k_mem); (case z19P => k_extra "m_ints"))
  | (refine' one_int 0 4095 ?z19k1 ?z19k2 ?z19k3 ?z19k4 ?z19k5 ?z19k6 ?z19U ?z19o ?z19m ?z19ne ?z19P ?z19t1 ?z19t2 ?z19k7 ?z19k8 ?_; (case z19k4 => k_asm); (case z19m => k_mem); (case z19P => k_extra "m_ints"))
  | (refine' one_int 0 65535 ?z19k1 ?z19k2 ?z19k3 ?z19k4 ?z19k5 ?z19k6 ?z19U ?z19o ?z19m ?z19ne ?z19P ?z19t1 ?z19t2 ?z19k7 ?z19k8 ?_; (case z19k4 => k_asm); (case z19m => k_mem); (case z19P => k_extra "m_ints"))
  | (refine' one_int 0 4294967295 ?z19k1 ?z19k2 ?z19k3 ?z19k4 ?z19k5 ?z19k6 ?z19U ?z19o ?z19m ?z19ne ?z19P ?z19t1 ?z19t2 ?z19k7 ?z19k8 ?_; (case z19k4 => k_asm); (case z19m => k_mem); (case z19P => k_extra "m_ints"))
  | (refine' one_int 0 281474976710655 ?z19k1 ?z19k2 ?z19k3 ?z19k4 ?z19k5 ?z19k6 ?z19U ?z19o ?z19m ?z19ne ?z19P ?z19t1 ?z19t2 ?z19k7 ?z19k8 ?_; (case z19k4 => k_asm); (case z19m => k_mem); (case z19P => k_extra "m_ints"))); k_dflt ((case z19k1 => k_asm); (case z19k2 => k_asm); (case z19k3 => k_asm); (case z19k5 => k_asm); (case z19k6 => first | exact rfl | assumption); (case z19U => k_updF); (case z19o => assumption); (case z19ne => k_ne); (case z19t1 => k_extra "m_len"); (case z19t2 => k_extra "m_len"); (case z19k7 => ktr_room); (case z19k8 => ktr_units)); intro z' t' o' h' tk' ra' rb' ro' F' N'; (try dsimp only at N'); (try dsimp only); (try k_sweep)))
  (k_with "m_fill" => (have hfill : PySem.Challenge.rw_xm0978_01 = PySem.Challenge.rw_xm0978_01 ∧ Mine.hd.heap_1 = Mine.hd.heap_1 := (by k_fill; exact ⟨rfl, rfl⟩); clear hfill))
  trivial
set_option maxHeartbeats 8000000 in
theorem bridge_c (w : World) (mean : ExcName → Option Value) (mg mb : Str → Option Value) (src : Addr) (o : Obj) (rest : List (Addr × Obj))
   (ho : IsSrc o) (hrest : ∀ p ∈ rest, p.1 ≠ src) :
   Ctr w mean mg mb 3 229 [.ref src] ((src, o) :: rest) (fun v news' => ∃ ex o', (∃ (t : Addr) (x y : Int) (tx ty : Tok), v = .ref t ∧ 0 ≤ x ∧ x ≤ 65535 ∧ 0 ≤ y ∧ y ≤ 281474976710655 ∧ IsSrc o' ∧ ex = [(t, { cls := .type "tuple", data := .seq [.int x tx, .int y ty].toArray })] ∧ AllLt t ((src, o') :: rest)) ∧ news' = ex ++ (src, o') :: rest) := by
  k_extra "m_fill"
  unfold Ctr
  intro dp un gd cn cs a ccd cl outer A₀ base h₀ L m s Q E B F X N T hk hdp hun hret
  refine wpAny_call ?_
  k_dflt cell_enter
  k_steps
  all_goals (refine' hret _ _ _ _ ⟨[_], _, ⟨_, _, _, _, _, rfl, ?a1, ?a2, ?a3, ?a4, ?o, rfl, ?lt⟩, rfl⟩ ?F ?N; (case F => assumption); (case N => exact cb_drop (by assumption) (by (try dsimp only [List.cons_append, List.nil_append]); k_extra "m_sub")); (case o => assumption); (case a1 => assumption); (case a2 => assumption); (case a3 => assumption); (case a4 => assumption); (case lt => k_extra "m_lt"))
-- BitsM
theorem lines17 : True := by
  w_top off
  trivial
theorem nat_and_low (a b i : Nat) (h : b < 2 ^ i) : (2 ^ i * a) &&& b = 0 := by
  apply Nat.eq_of_testBit_eq
  intro j
  rw [Nat.testBit_and, Nat.testBit_two_pow_mul, Nat.zero_testBit]
  by_cases hj : i ≤ j
  · have : b < 2 ^ j := Nat.lt_of_lt_of_le h (Nat.pow_le_pow_right (by decide) hj)
    rw [Nat.testBit_lt_two_pow this, Bool.and_false]
  · simp [hj]
theorem or_low {a b : Int} {i : Nat} (ha : 0 ≤ a) (hb : 0 ≤ b) (h : b < 2 ^ i) : Builtin.bitOr (a * 2 ^ i) b = a * 2 ^ i + b := by
  rw [bitOr_and]
  have hp : (0 : Int) < 2 ^ i := kbt_pos i
  rw [bitAnd_pp (Int.mul_nonneg ha (Int.le_of_lt hp)) hb]
  obtain ⟨a, rfl⟩ := Int.eq_ofNat_of_zero_le ha
  obtain ⟨b, rfl⟩ := Int.eq_ofNat_of_zero_le hb
  have e : ((a : Int) * 2 ^ i).toNat = 2 ^ i * a := by
    rw [← kbt_cast, ← Int.natCast_mul, Int.toNat_natCast, Nat.mul_comm]
  have hb' : b < 2 ^ i := by
    rw [← kbt_cast] at h
    exact Int.ofNat_lt.mp h
  rw [e, Int.toNat_natCast, nat_and_low a b i hb']
  omega
section
variable {prog : Program} {w : World} {A : Around} {E : Value → Shared → Prop} {s : Shared}
/-- x << 8 -/
theorem shl8 {a : Int} {t u : Tok} {Q : Value → Shared → Prop} (h0 : 0 ≤ a) (h1 : a < 72057594037927936) (h : ∀ r : Int, r = a * 256 → Q (.int r s.toks) { s with toks := s.toks + 1 }) :
   wpAny (model prog w) A (binaryOp .LShift (.int a t) (.int 8 u)) Q E s :=
  lshift_int_small (by decide) (by decide) (by omega) (h _ rfl)
theorem or8 {a b : Int} {t u : Tok} {Q : Value → Shared → Prop} (q : Int) (hq : a = q * 256) (h0 : 0 ≤ q) (h1 : 0 ≤ b) (h2 : b < 256) (h : ∀ r : Int, r = a + b → Q (.int r s.toks) { s with toks := s.toks + 1 }) :
   wpAny (model prog w) A (binaryOp .BitOr (.int a t) (.int b u)) Q E s := by
  refine or_int (h _ ?_)
  subst hq
  exact or_low (i := 8) h0 h1 h2
end
theorem lines18 : True := by
  (k_with "binaryOp LShift int int" => (k_here; (with_reducible show wpAny _ _ (binaryOp Operator.LShift (Value.int _ _) (Value.int 8 _)) _ _ _); (refine' shl8 ?z21k1 ?z21k2 ?_; (case z21k1 => k_extra "m_num"); (case z21k2 => k_extra "m_num")); intro r' e'))
  (k_with "binaryOp BitOr int int" => (k_here; (refine' or8 _ ?z22k1 ?z22k2 ?z22k3 ?z22k4 ?_; (case z22k1 => assumption); (case z22k2 => k_extra "m_num"); (case z22k3 => k_extra "m_num"); (case z22k4 => k_extra "m_num")); intro r' e'))
  trivial
theorem off_of_lt {I : Addr} {l : List (Addr × Obj)} (h : ∀ p ∈ l, p.1 < I) : ∀ p ∈ l, p.1 ≠ I := fun p hp => Nat.ne_of_lt (h p hp)
theorem off_of_all {I : Addr} {l : List (Addr × Obj)} (h : AllLt I l) : ∀ p ∈ l, p.1 ≠ I := fun p hp => Nat.ne_of_lt (ktn_ltOf h p hp)
theorem unr_head {h₀ : Heap} {L I : Addr} {it : Obj} {rest : (Str → Option Value) → List (Addr × Obj) → Prop} {s₁ : Shared} {h' : Heap} {tk : Nat} {m' : Str → Option Value} {tl : List (Addr × Obj)} (F : Fr h₀ L h' m') (N : News h₀ L h' ((I, it) :: tl))
    (off : ∀ p ∈ tl, p.1 ≠ I) (r : rest m' tl) : UnrEnd h₀ L s₁ I it rest { s₁ with heap := h', toks := tk } := UnrEnd.intro F N tl (fun _ h => h) off r
theorem lines19 : True := by
  (k_with "m_off" => first | exact off_of_lt (by assumption) | exact off_of_all (by assumption) | k_all | exact off_of_all (by k_extra "m_lt"))
  (k_with "UnrEnd" => (with_unfolding_all (refine' unr_head ?z24F ?z24N ?z24off ?_; (case z24F => assumption); (case z24N => assumption); (case z24off => k_extra "m_off"))))
  (k_with "pyIter bytes" => ((with_reducible show wpAny _ _ (pyIter (Value.bytes _ _)) (fun it s₂ => LoopAtV _ _ _ _ _ _ _ _ _ it s₂) _ _); k_here; k_bytesUnr))
  trivial
/-- the number that octets are -/
def numOf : List Int → Int := fun ks => ks.foldl (fun a k => a * 256 + k) 0
theorem lines20 : True := by
  (k_with "m_walk" => (
  k_extra "m_fill"
  unfold Ctr
  intro dp un gd cn cs a ccd cl outer A₀ base h₀ L m s Q E B F X N T hk hdp hun hret
  refine wpAny_call ?_
  k_dflt cell_enter
  k_steps))
  trivial
set_option maxHeartbeats 8000000 in
theorem on2_c (w : World) (mean : ExcName → Option Value) (mg mb : Str → Option Value) (b : Array UInt8) (t : Tok) (k0 k1 : Int) (news : List (Addr × Obj))
   (hb : KBw.bInts b = [k0, k1]) :
   Ctr w mean mg mb 1 135 [.bytes b t] news (fun v news' => (∃ t, v = .int (k0 * 256 + k1) t) ∧ news' = news) := by
  k_extra "m_fill"
  unfold Ctr
  intro dp un gd cn cs a ccd cl outer A₀ base h₀ L m s Q E B F X N T hk hdp hun hret
  refine wpAny_call ?_
  k_dflt cell_enter
  k_steps
  all_goals (refine hret _ _ _ _ ⟨⟨_, congrArg (fun x => Value.int x _) ?_⟩, rfl⟩ (by assumption) (by assumption); omega)
set_option maxHeartbeats 8000000 in
theorem on4_c (w : World) (mean : ExcName → Option Value) (mg mb : Str → Option Value) (b : Array UInt8) (t : Tok) (k0 k1 k2 k3 : Int) (news : List (Addr × Obj))
   (hb : KBw.bInts b = [k0, k1, k2, k3]) :
   Ctr w mean mg mb 1 135 [.bytes b t] news (fun v news' => (∃ t, v = .int (k0 * 16777216 + k1 * 65536 + k2 * 256 + k3) t) ∧ news' = news) := by
  k_extra "m_fill"
  unfold Ctr
  intro dp un gd cn cs a ccd cl outer A₀ base h₀ L m s Q E B F X N T hk hdp hun hret
  refine wpAny_call ?_
  k_dflt cell_enter
  k_steps
  all_goals (refine hret _ _ _ _ ⟨⟨_, congrArg (fun x => Value.int x _) ?_⟩, rfl⟩ (by assumption) (by assumption); omega)
set_option maxHeartbeats 8000000 in
theorem on6_c (w : World) (mean : ExcName → Option Value) (mg mb : Str → Option Value) (b : Array UInt8) (t : Tok) (k0 k1 k2 k3 k4 k5 : Int) (news : List (Addr × Obj))
   (hb : KBw.bInts b = [k0, k1, k2, k3, k4, k5]) :
   Ctr w mean mg mb 1 135 [.bytes b t] news (fun v news' => (∃ t, v = .int (k0 * 1099511627776 + k1 * 4294967296 + k2 * 16777216 + k3 * 65536 + k4 * 256 + k5) t) ∧ news' = news) := by
  k_extra "m_fill"
  unfold Ctr
  intro dp un gd cn cs a ccd cl outer A₀ base h₀ L m s Q E B F X N T hk hdp hun hret
  refine wpAny_call ?_
  k_dflt cell_enter
  k_steps
  all_goals (refine hret _ _ _ _ ⟨⟨_, congrArg (fun x => Value.int x _) ?_⟩, rfl⟩ (by assumption) (by assumption); omega)
-- LcM
open PySem.Spec
theorem lines21 : True := by
  w_top off
  trivial
section
variable {prog : Program} {w : World} {A : Around} {E : Value → Shared → Prop} {s : Shared} {h₀ : Heap} {L : Addr} {m : Str → Option Value} {env : Env}
abbrev tupOf (l : List Value) (k : Nat) : Obj := { cls := .type "tuple", data := .seq l.toArray k }
/-- the sources: a range of any step, a tuple of the ledger -/
def SrcM (prog : Program) (w : World) (A : Around) (h₀ : Heap) (L : Addr) (m : Str → Option Value) (env : Env) (elt : PySem.Expr) (x : Str) (scope : Scope) (cl : List (Str × Addr)) (Fin : Shared → List Value → List (Addr × Obj) → Prop) (xv : Value) (s₁ : Shared) : Prop :=
  (∃ r a b c t u v n news, xv = .ref r ∧ A.handled = none ∧ Fr h₀ L s₁.heap m ∧ News h₀ L s₁.heap news ∧ IsRange s₁.heap r a b c t u v ∧ Builtin.Range.small a b c = true ∧ Builtin.Range.rangeSize a b c = ((n : Nat) : Int) ∧ n ≤ sizeLine ∧
    ∀ s₂ : Shared, (∃ h, s₂ = { s₁ with heap := h }) → LCg.CompRest prog w A h₀ L m env elt x scope cl s₂ (fun _ => True) (fun i v => ∃ t, v = .int (a + (i : Int) * c) t) (Fin s₂) n 0 [] news) ∨
  (∃ tp l k news, xv = .ref tp ∧ A.handled = none ∧ Fr h₀ L s₁.heap m ∧ News h₀ L s₁.heap news ∧ (tp, tupOf l k) ∈ news ∧ l.toArray.size ≤ sizeLine ∧
    ∀ s₂ : Shared, (∃ h, s₂ = { s₁ with heap := h }) → LCg.CompRest prog w A h₀ L m env elt x scope cl s₂ (fun nw => (tp, tupOf l k) ∈ nw) (fun i v => l.toArray[i]? = some v) (Fin s₂) l.toArray.size 0 [] news)
theorem SrcM.range {elt : PySem.Expr} {x : Str} {scope : Scope} {cl : List (Str × Addr)} {Fin : Shared → List Value → List (Addr × Obj) → Prop} {r : Addr} {a b c : Int} {t u v : Tok} {n : Nat} {news : List (Addr × Obj)} {s₁ : Shared}
    (hh : A.handled = none) (F : Fr h₀ L s₁.heap m) (N : News h₀ L s₁.heap news) (hr : IsRange s₁.heap r a b c t u v) (hsm : Builtin.Range.small a b c = true) (hn : Builtin.Range.rangeSize a b c = ((n : Nat) : Int)) (hsz : n ≤ sizeLine)
    (h : ∀ g, LCg.CompRest prog w A h₀ L m env elt x scope cl { s₁ with heap := g } (fun _ => True) (fun i v => ∃ t, v = .int (a + (i : Int) * c) t) (Fin { s₁ with heap := g }) n 0 [] news) :
    SrcM prog w A h₀ L m env elt x scope cl Fin (.ref r) s₁ := .inl ⟨r, a, b, c, t, u, v, n, news, rfl, hh, F, N, hr, hsm, hn, hsz, fun _ ⟨g, e⟩ => e ▸ h g⟩
theorem SrcM.tup {elt : PySem.Expr} {x : Str} {scope : Scope} {cl : List (Str × Addr)} {Fin : Shared → List Value → List (Addr × Obj) → Prop} {tp : Addr} {l : List Value} {k : Nat} {news : List (Addr × Obj)} {s₁ : Shared}
    (hh : A.handled = none) (F : Fr h₀ L s₁.heap m) (N : News h₀ L s₁.heap news) (hm : (tp, tupOf l k) ∈ news) (hsz : l.toArray.size ≤ sizeLine)
    (h : ∀ g, LCg.CompRest prog w A h₀ L m env elt x scope cl { s₁ with heap := g } (fun nw => (tp, tupOf l k) ∈ nw) (fun i v => l.toArray[i]? = some v) (Fin { s₁ with heap := g }) l.toArray.size 0 [] news) :
    SrcM prog w A h₀ L m env elt x scope cl Fin (.ref tp) s₁ := .inr ⟨tp, l, k, news, rfl, hh, F, N, hm, hsz, fun _ ⟨g, e⟩ => e ▸ h g⟩
theorem lc_M {elt iter : PySem.Expr} {x : Str} {px : Pos} {scope : Scope} {cl : List (Str × Addr)} {pos : Pos} {Q : Value → Shared → Prop} (F₀ : Fr h₀ L s.heap m)
    (hclos : closureFor scope env = pure cl) (hcell : ∀ y ∈ scope.names, y.2 ≠ .cell) (hkind : scope.kind = .function)
    (hnames : ∀ y ∈ scope.names, y.2 = .local → scope.names.lookup y.1 = some .local) (hx : scope.names.lookup x = some .local)
    (h : wpAny (model prog w) A (eval iter env) (SrcM prog w A h₀ L m env elt x scope cl (fun s₂ => LCg.FinE h₀ L m s₂ Q)) E s)
    (hs : ∀ x, foldedSetIterable iter env x = pure x := by intro _; rfl) :
    wpAny (model prog w) A (eval (.ListComp elt [⟨.Name x px, iter, [], 0⟩] scope pos) env) Q E s := by
  rw [eval_ListComp]
  refine wpAny_comprehension_free (use := none) rfl hs hclos hkind hnames (wpAny_mono h (fun xv s₁ h₁ => ?_) fun _ _ e => e)
  have last : ∀ (D C : Addr) (h : Heap) (tk : Nat) (m' : Str → Option Value) (ys : List Value) (news' : List (Addr × Obj)) (s₂ : Shared), Fr h₀ L h m → News h₀ L h ((D, LCg.lst ys) :: news') → LCg.Off1 D news' → h.Ns C m' → h₀.get? C = none → h₀.get? D = none → C ≠ L → D ≠ L → C ≠ D → (∀ p ∈ news', p.1 ≠ C) → LCg.FinE h₀ L m s₂ Q ys news' →
      compPost (model prog w) A E none Q (.ref D) C (.ok .next) { s₂ with heap := h, toks := tk } := by
    intro D C h tk m' ys news' s₂ F' N' o1 hn hC₀ hD₀ hCL hDL hCD offC fin
    refine ⟨m', hn, fun h'' hs'' => fin D h'' tk (F'.change hs'' hCL hC₀) (fun p hp => ?_) o1⟩
    refine ⟨hs''.extBut _ _ ?_ (N' p hp).1, (N' p hp).2⟩
    rcases List.mem_cons.mp hp with rfl | hp
    · exact Ne.symm hCD
    · exact offC p hp
  rcases h₁ with ⟨r, a, b, c, t, u, v, n, news, rfl, hh, F, N, hr, hsm, hn, hsz, R⟩ | ⟨tp, l, k, news, rfl, hh, F, N, hm, hsz, R⟩
  · refine wpAny_pyIter_range hr hsm ?_
    refine LCg.block_U (Walks.range hh s₁.heap.objs.size a c n) hsz (fun i h st => ⟨_, st⟩) ?_ hcell hkind hx ?_ (fun b hb => ?_)
      (F.keeps fun _ _ e => Heap.get?_push_of_some _ e) (N.grown fun _ _ e => Heap.get?_push_of_some _ e) (Nat.ne_of_lt F.ns.lt) (next_is_new F) (fun p hp => Nat.ne_of_lt (Heap.lt_size (N p hp).1)) trivial (R _ ⟨_, rfl⟩) ?_
    · intro i h h' o nw st e e' _ _ _
      have st' : h.get? s₁.heap.objs.size = some _ := st
      show h'.get? s₁.heap.objs.size = some _
      rw [e', ← e]; exact st'
    · show IsRangeIter _ _ _ _ _
      rw [hn]
      simpa using Heap.get?_push_size _ rfl
    · rw [List.mem_singleton.mp hb]
      show s₁.heap.objs.size < (s₁.heap.push _).objs.size
      rw [Heap.size_push]; exact Nat.lt_succ_self _
    · intro D C h tk m' ys news' F' N' o1 hn hC₀ hD₀ hCL hDL hCD offC fin
      exact last D C h tk m' ys news' _ F' N' o1 hn hC₀ hD₀ hCL hDL hCD offC fin
  · have hl : s₁.heap.IsTuple tp l.toArray := ⟨_, (N _ hm).1, rfl, _, rfl⟩
    have hlt : tp < s₁.heap.objs.size := Heap.lt_size (N _ hm).1
    refine wpAny_pyIter_tuple hl ?_
    have up : ∀ b o, s₁.heap.get? b = some o → (s₁.heap.push { cls := .type "tuple_iterator", data := .fields #[.ref tp, .int 0 0] }).get? b = some o := fun b o e => Heap.get?_push_of_some _ e
    have W := Walks.tuple (prog := prog) (w := w) hh s₁.heap.objs.size tp (Nat.ne_of_lt hlt) l.toArray
    refine LCg.block_U W hsz (fun i h st => by obtain ⟨o, e, _⟩ := st.1; exact ⟨o, e⟩) ?_ hcell hkind hx ⟨⟨_, Heap.get?_push_size _ rfl, rfl, rfl⟩, hl.push _⟩ (fun b hb => ?_)
      (F.keeps up) (N.grown up) (Nat.ne_of_lt F.ns.lt) (next_is_new F) (fun p hp => Nat.ne_of_lt (Heap.lt_size (N p hp).1)) hm (R _ ⟨_, rfl⟩) ?_
    · intro i h h' o nw st e e' _ N' S
      exact ⟨by obtain ⟨o', q, r⟩ := st.1; rw [e] at q; cases q; exact ⟨o, e', r⟩, ⟨_, (N' _ S).1, rfl, _, rfl⟩⟩
    · show b < (s₁.heap.push _).objs.size
      rw [Heap.size_push]
      rcases List.mem_cons.mp hb with rfl | hb
      · exact Nat.lt_succ_self _
      · rw [List.mem_singleton.mp hb]; exact Nat.lt_succ_of_lt hlt
    · intro D C h tk m' ys news' F' N' o1 hn hC₀ hD₀ hCL hDL hCD offC fin
      exact last D C h tk m' ys news' _ F' N' o1 hn hC₀ hD₀ hCL hDL hCD offC fin
end
-- LcW
theorem lines22 : True := by
  w_top off
  trivial
section
variable {prog : Program} {w : World} {A : Around} {E : Value → Shared → Prop} {s : Shared} {h₀ : Heap} {L D : Addr} {m : Str → Option Value} {news : List (Addr × Obj)} {env : Env}
theorem mul_eq {a b c : Int} {t u : Tok} {Q : Value → Shared → Prop} (hm : IntMulOk a b) (e : a * b = c) (h : Q (.int c s.toks) { s with toks := s.toks + 1 }) :
   wpAny (model prog w) A (binaryOp .Mult (.int a t) (.int b u)) Q E s := by subst e; exact mul_int h hm
theorem shl_eq {a n : Int} {t u : Tok} {Q : Value → Shared → Prop} (k : Nat) (c : Int) (hn : n = (k : Int)) (hk : k ≤ 1000000) (ha : a.natAbs < 2 ^ 64) (e : a * 2 ^ k = c) (h : Q (.int c s.toks) { s with toks := s.toks + 1 }) :
   wpAny (model prog w) A (binaryOp .LShift (.int a t) (.int n u)) Q E s := by
  subst hn
  refine lshift_int_small (by omega) (by omega) ha ?_
  rw [Int.toNat_natCast, e]
  exact h
theorem shr_eq {a n : Int} {t u : Tok} {Q : Value → Shared → Prop} (k : Nat) (P : Int) (hn : n = (k : Int)) (hP : (2 : Int) ^ k = P) (h : ∀ r : Int, r = a / P → Q (.int r s.toks) { s with toks := s.toks + 1 }) :
   wpAny (model prog w) A (binaryOp .RShift (.int a t) (.int n u)) Q E s := by
  subst hn
  refine rshift_int (by omega) ?_
  rw [Int.toNat_natCast, Int.fdiv_eq_ediv_of_nonneg _ (Int.le_of_lt (kbt_pos k)), hP]
  exact h _ rfl
theorem and255 {a : Int} {t u : Tok} {Q : Value → Shared → Prop} (h : ∀ r : Int, r = a % 256 → Q (.int r s.toks) { s with toks := s.toks + 1 }) :
   wpAny (model prog w) A (binaryOp .BitAnd (.int a t) (.int 255 u)) Q E s := and_int (h _ (kbt_mask a 8))
theorem and4095 {a : Int} {t u : Tok} {Q : Value → Shared → Prop} (h : ∀ r : Int, r = a % 4096 → Q (.int r s.toks) { s with toks := s.toks + 1 }) :
   wpAny (model prog w) A (binaryOp .BitAnd (.int a t) (.int 4095 u)) Q E s := and_int (h _ (kbt_mask a 12))
theorem bytes_led {vs : List Value} {ns : List Int} {n : Nat} {Q : Value → Shared → Prop} (F : Fr h₀ L s.heap m) (N : News h₀ L s.heap news) (hh : A.handled = none) (hm : (D, listOf vs.toArray n) ∈ news) (hi : IntsAre vs ns) (hr : KBa.In ns) (hn : ns.length ≤ 16777216)
    (h : ∀ b h' t' k, Fr h₀ L h' m → News h₀ L h' news → KBw.bInts b = ns → Q (.bytes b t') { s with heap := h', toks := k }) : wpAny (model prog w) A (call (.type "bytes") [.ref D]) Q E s :=
  KBa.make_K F N hh (PySem.IsL.isList (n := n) (N _ hm).1) hi hr hn fun h' t' k F' N' hin => h _ h' t' k F' N' (KBa.ints_make hin)
theorem comp_end {I C : Addr} {s₁ : Shared} {oI oC oD : Obj} {S : List (Addr × Obj) → Prop} {rest : Value → List (Addr × Obj) → Prop} {y : Value} {h' : Heap} {tk : Nat} {tl : List (Addr × Obj)}
    (F : Fr h₀ L h' m) (N : News h₀ L h' ((I, oI) :: (C, oC) :: (D, oD) :: tl)) (off : LCg.Off3 I C D tl) (hS : S tl) (r : rest y tl) :
    LCg.CompEnd h₀ L m s₁ I oI C oC D oD S rest y { s₁ with heap := h', toks := tk } := LCg.CompEnd.intro F N tl (fun _ h => h) off hS r
end
theorem lines23 : True := by
  (k_with "m_pw" => first | rfl | decide)
  (k_with "m_eqn" => first | rfl | decide | omega)
  (k_with "m_ia" => first | exact PyProof.Rows.IntsAre.nil | (apply PyProof.Rows.IntsAre.cons; k_extra "m_ia"))
  (k_with "m_in" => first | exact List.forall_mem_nil _ | (refine List.forall_mem_cons.mpr ⟨⟨by k_extra "m_num", by k_extra "m_num"⟩, ?_⟩; k_extra "m_in"))
  (k_with "m_off3" => first | exact True.intro | assumption | (refine And.intro ⟨by k_ne, by k_ne, by k_ne⟩ ?_; k_extra "m_off3") | (simp only [*]; done))
  (k_with "m_compS" => first | exact True.intro | assumption | k_mem)
  (k_with "eval ListComp" => (k_here; k_dflt (refine lc_M (F₀ := by k_asm) (by with_unfolding_all rfl) (by decide) (by rfl) (by decide) (by rfl) ?_)))
  (k_with "SrcM" => (k_here; k_dflt (first
  | (refine SrcM.range (by rfl) (by k_asm) (by k_asm) (by assumption) (by first | decide | rfl) (by first | rfl | decide) (by first | size_fits | exact Nat.le_of_ble_eq_true rfl) ?_; intro g'; lcg_lit)
  | (refine SrcM.tup (by rfl) (by k_asm) (by k_asm) (by k_mem) (by first | size_fits | exact Nat.le_of_ble_eq_true rfl) ?_; intro g'; lcg_lit))))
  (k_with "CompEnd" => (with_unfolding_all (refine' comp_end ?z35F ?z35N ?z35off ?z35S ?_; (case z35F => assumption); (case z35N => assumption); (case z35off => k_extra "m_off3"); (case z35S => k_extra "m_compS"))))
  (k_with "binaryOp Mult int int" => (k_here; (refine' mul_gen ?z36k1 ?_; (case z36k1 => mul_fits)); intro r' e' a'))
  (k_with "binaryOp RShift int int" => (k_here; first
  | (refine' shr_eq 0 1 ?z37k1 ?z37k2 ?_; (case z37k1 => k_extra "m_eqn"); (case z37k2 => k_extra "m_pw"); intro r' e')
  | (refine' shr_eq 8 256 ?z37k1 ?z37k2 ?_; (case z37k1 => k_extra "m_eqn"); (case z37k2 => k_extra "m_pw"); intro r' e')
  | (refine' shr_eq 12 4096 ?z37k1 ?z37k2 ?_; (case z37k1 => k_extra "m_eqn"); (case z37k2 => k_extra "m_pw"); intro r' e')
  | (refine' shr_eq 16 65536 ?z37k1 ?z37k2 ?_; (case z37k1 => k_extra "m_eqn"); (case z37k2 => k_extra "m_pw"); intro r' e')
  | (refine' shr_eq 24 16777216 ?z37k1 ?z37k2 ?_; (case z37k1 => k_extra "m_eqn"); (case z37k2 => k_extra "m_pw"); intro r' e')
  | (refine' shr_eq 32 4294967296 ?z37k1 ?z37k2 ?_; (case z37k1 => k_extra "m_eqn"); (case z37k2 => k_extra "m_pw"); intro r' e')
  | (refine' shr_eq 40 1099511627776 ?z37k1 ?z37k2 ?_; (case z37k1 => k_extra "m_eqn"); (case z37k2 => k_extra "m_pw"); intro r' e')))
  (k_with "binaryOp LShift int int" => (k_here; (with_reducible show wpAny _ _ (binaryOp Operator.LShift (Value.int 1 _) (Value.int _ _)) _ _ _); first
  | (refine' shl_eq 16 65536 ?z38k1 ?z38k2 ?z38k3 ?z38k4 ?_; (case z38k1 => k_extra "m_eqn"); (case z38k2 => decide); (case z38k3 => decide); (case z38k4 => k_extra "m_pw"))
  | (refine' shl_eq 32 4294967296 ?z38k1 ?z38k2 ?z38k3 ?z38k4 ?_; (case z38k1 => k_extra "m_eqn"); (case z38k2 => decide); (case z38k3 => decide); (case z38k4 => k_extra "m_pw"))
  | (refine' shl_eq 48 281474976710656 ?z38k1 ?z38k2 ?z38k3 ?z38k4 ?_; (case z38k1 => k_extra "m_eqn"); (case z38k2 => decide); (case z38k3 => decide); (case z38k4 => k_extra "m_pw"))))
  (k_with "binaryOp BitAnd int int" => (k_here; (with_reducible show wpAny _ _ (binaryOp Operator.BitAnd (Value.int _ _) (Value.int 255 _)) _ _ _); refine and255 ?_; intro r' e'))
  (k_with "binaryOp BitAnd int int" => (k_here; (with_reducible show wpAny _ _ (binaryOp Operator.BitAnd (Value.int _ _) (Value.int 4095 _)) _ _ _); refine and4095 ?_; intro r' e'))
  (k_with "call type:bytes cons nil" => (k_here; (with_reducible show wpAny _ _ (call (Value.type "bytes") [Value.ref _]) _ _ _); k_dflt (refine' bytes_led ?z41F ?z41N ?z41hh ?z41m ?z41i ?z41r ?z41n ?_; (case z41F => k_asm); (case z41N => k_asm); (case z41hh => rfl); (case z41m => k_mem); (case z41i => k_extra "m_ia"); (case z41r => k_extra "m_in"); (case z41n => k_extra "m_len")); intro b' h' t' k' F' N' hb'; (try k_sweep)))
  (k_with "m_enterC" => (refine' code_defC ?z42k1 ?z42k2 ?z42k3 ?z42k4 ?z42k5 ?z42kA ?z42kF ?z42kK ?z42k6 ?z42k7 ?z42k8 ?z42k9 ?z42kB ?z42kD ?_ ?z42c2 ?z42c3 ?z42c4; (case z42kA => exact rfl); (case z42kF => exact rfl); (case z42kK => assumption); (case z42k1 => k_asm); (case z42k2 => k_asm); (case z42k3 => k_asm); (case z42k4 => k_asm); (case z42k5 => k_asm); (case z42k6 => k_is); (case z42k7 => k_is); (case z42k8 => ktr_room); (case z42k9 => exact BindsTo.of_eq rfl); (case z42kB => exact rfl); (case z42kD => decide +kernel); (case z42c2 => exact rfl); (case z42c3 => exact rfl); (case z42c4 => exact rfl); k_whole; intro g' L' h' tk' cells' FG' F' N' Y' B' X' T' l1; (try k_lt l1); k_cells Y'; (try simp only [List.cons_append, List.nil_append] at N'); (try dsimp only); (try k_fold)))
  trivial
-- ListB
theorem lines24 : True := by
  w_top off
  trivial
theorem lk_len : typeLookup (.type "bytes") "__len__" = pure (some (.builtin "bytes.__len__")) := by rw [typeLookup_type, builtinLookup_eq_fast]; kernel_rfl
section
variable {prog : Program} {w : World} {A : Around} {E : Value → Shared → Prop} {s : Shared}
abbrev OctAt (b : Array UInt8) (i : Nat) (v : Value) : Prop := ∃ c u, b[i]? = some c ∧ v = Value.int (c.toNat : Int) u
theorem ext_bytes {R : Result → Shared → Prop} (hh : A.handled = none) (b : Array UInt8) (t : Tok) (S : Addr) (res : Value) (c₀ : Nat) (hS : s.heap.get? S = some { cls := .type "list", data := .seq #[] c₀ }) (hn : b.size ≤ sizeLine)
    (hR : ∀ h' tk acc' c', (∀ a o, a ≠ S → s.heap.get? a = some o → h'.get? a = some o) → h'.get? S = some { cls := .type "list", dict := none, data := .seq acc' c', slots := #[] } →
      ItemsOf (OctAt b) acc' b.size → R (.ok (.ret res)) { s with heap := h', toks := tk }) :
    wpAny (model prog w) A.in1 (Builtin.List.listExtendWith (.ref S) (.bytes b t) res)
      (fun fin s' => match fin with | .done f => R (.ok f) s' | .again c' => c'.quiet = true ∧ codeAny (model prog w) A c' R s') (fun e s' => R (.error e) s') s := by
  have hSlt : S < s.heap.objs.size := Heap.lt_size hS
  have hSI : S ≠ s.heap.objs.size := Nat.ne_of_lt hSlt
  have hSf : S ∉ [s.heap.objs.size] := fun hm => hSI (List.mem_singleton.mp hm)
  have W := (KBw.walks (prog := prog) (w := w) (A := A.in1) hh s.heap.objs.size b t).toS
  unfold Builtin.List.listExtendWith
  refine wpAny_bind (wpAny_typeOf (T := "bytes") (v := .bytes b t) rfl ?_)
  have h1 : Builtin.List.listSameRef (.ref S) (.bytes b t) = false := rfl
  have h2 : (Value.type "bytes" == Value.type "list") = false := by decide
  have h3 : (Value.type "bytes" == Value.type "tuple") = false := by decide
  simp only [h1, h2, h3, Bool.or_false, Bool.false_eq_true, if_false]
  refine wpAny_bind (KBw.pyIter_bytes ?_)
  refine wpAny_bind (wpAny_holding ?_)
  unfold Builtin.List.listLengthHint
  refine wpAny_bind (wpAny_specialOf (T := "bytes") (v := .bytes b t) rfl lk_len ?_)
  wp_delta
  refine wpAny_bind (wpAny_isInstance (T := "bytes") (v := .bytes b t) (b := true) rfl (by rw [isSubtype_type]; kernel_rfl) ?_)
  show wpAny _ _ (typeOf (Value.bytes b t) >>= _) _ _ _
  refine wpAny_bind (wpAny_typeOf (T := "bytes") (v := .bytes b t) rfl ?_)
  refine wpAny_pure ?_
  rw [if_neg (by decide)]
  refine wpAny_pure ⟨plainId_quiet F.plain_extend_loop _, codeAny_extend_loopS W hn S hSf res b.size 0 _ #[] c₀ rfl (Nat.zero_le _) ?_ (Heap.get?_push_of_some _ hS) (ItemsOf.nil _) fun s' acc' c' hm hS' hacc => ?_⟩
  · exact ⟨_, Heap.get?_push_size _ rfl, rfl, rfl⟩
  rw [Moved.eq_with hm]
  refine hR s'.heap s'.toks acc' c' (fun a ob ha e => hm.heap a ob (fun hmem => ?_) (Heap.get?_push_of_some _ e)) hS' hacc
  rcases List.mem_cons.mp hmem with e' | hmem
  · exact ha e'
  · exact absurd (Heap.lt_size e) (by rw [List.mem_singleton.mp hmem]; exact Nat.lt_irrefl _)
theorem init_bytes {R : Result → Shared → Prop} (hh : A.handled = none) (b : Array UInt8) (t : Tok) (S : Addr) (hS : s.heap.get? S = some { cls := .type "list", data := .seq #[] }) (hn : b.size ≤ sizeLine)
    (hR : ∀ h' tk acc' c', (∀ a o, a ≠ S → s.heap.get? a = some o → h'.get? a = some o) → h'.get? S = some { cls := .type "list", dict := none, data := .seq acc' c', slots := #[] } →
      ItemsOf (OctAt b) acc' b.size → R (.ok (.ret .none)) { s with heap := h', toks := tk }) :
    wpAny (model prog w) A.in1 (Builtin.«list.__init__» ⟨[.ref S, .bytes b t], []⟩)
      (fun fin s' => match fin with | .done f => R (.ok f) s' | .again c' => c'.quiet = true ∧ codeAny (model prog w) A c' R s') (fun e s' => R (.error e) s') s := by
  show wpAny _ _ (do let old ← Builtin.List.listItems (.ref S); Builtin.List.listUpdate (.ref S) (fun _ => #[]); letGo old.toList.reverse; Builtin.List.listExtendWith (.ref S) (.bytes b t) .none) _ _ s
  refine wpAny_bind ?_
  unfold Builtin.List.listItems
  refine wpAny_bind (wpAny_seqItems hS rfl (wpAny_pure ?_))
  show wpAny _ _ (updateSeq S (fun _ => #[]) >>= fun _ => letGo (#[] : Array Value).toList.reverse >>= fun _ => Builtin.List.listExtendWith (.ref S) (.bytes b t) .none) _ _ s
  refine wpAny_bind (wpAny_updateSeq hS rfl ?_)
  have hS₂ := Heap.get?_update_self (Obj.mapSeq (fun _ => (#[] : Array Value))) hS rfl
  refine wpAny_bind (wpAny_letGo ?_)
  refine ext_bytes hh b t S .none _ hS₂ hn fun h' tk acc' c' hk hS' hacc => ?_
  exact hR h' tk acc' c' (fun a o ha e => hk a o ha ((Heap.get?_update_other _ _ (Ne.symm ha)).trans e)) hS' hacc
theorem call_list_bytes {Q : Value → Shared → Prop} (hh : A.handled = none) (b : Array UInt8) (t : Tok) (hn : b.size ≤ sizeLine)
    (hQ : ∀ h' tk acc' c', (∀ a o, s.heap.get? a = some o → h'.get? a = some o) →
      h'.get? s.heap.objs.size = some { cls := .type "list", dict := none, data := .seq acc' c', slots := #[] } → ItemsOf (OctAt b) acc' b.size → Q (.ref s.heap.objs.size) { s with heap := h', toks := tk }) :
    wpAny (model prog w) A (call (.type "list") [.bytes b t]) Q E s := by
  refine callType_codes (Q₁ := fun obj s₁ => obj = .ref s.heap.objs.size ∧ s₁ = { s with heap := s.heap.push { cls := .type "list", data := .seq #[] } }) F.called_list (F.typeCall_list_1 _) F.entry_list_init
    (code_list_new _ ⟨rfl, rfl⟩) fun obj s₁ h₁ => ?_
  obtain ⟨rfl, rfl⟩ := h₁
  have hS : (s.heap.push { cls := .type "list", data := .seq #[] }).get? s.heap.objs.size = some { cls := .type "list", data := .seq #[] } := Heap.get?_push_size _ rfl
  refine ⟨⟨_, hS, rfl⟩, F.args_list_init_2 _ _, init_bytes (A := A.in1) hh b t _ hS hn fun h' tk acc' c' hk hS' hacc => ?_⟩
  exact ⟨rfl, hQ h' tk acc' c' (fun a o e => hk a o (Nat.ne_of_lt (Heap.lt_size e)) (Heap.get?_push_of_some _ e)) hS' hacc⟩
/-- the values are these ints, whatever their tokens -/
theorem octs_ints {b : Array UInt8} {acc : Array Value} (h : ItemsOf (OctAt b) acc b.size) : PyProof.Rows.IntsAre acc.toList (KBw.bInts b) := by
  obtain ⟨hs, hP⟩ := h
  obtain ⟨l⟩ := acc
  obtain ⟨bl⟩ := b
  simp only [List.size_toArray] at hs
  rw [KBw.ints_list]
  have hP' : ∀ j v, l[j]? = some v → ∃ (c : UInt8) (u : Tok), bl[j]? = some c ∧ v = Value.int (c.toNat : Int) u := fun j v e => by
    obtain ⟨c, u, h1, h2⟩ := hP j v (by simpa using e)
    exact ⟨c, u, by simpa using h1, h2⟩
  show PyProof.Rows.IntsAre l _
  clear hP
  induction l generalizing bl with
  | nil => cases bl with
    | nil => exact .nil
    | cons c r => simp at hs
  | cons v l ih => cases bl with
    | nil => simp at hs
    | cons c r =>
      obtain ⟨c', u, h1, rfl⟩ := hP' 0 v rfl
      simp only [List.getElem?_cons_zero, Option.some.injEq] at h1
      subst h1
      exact .cons _ _ (ih r (by simpa using hs) fun j v e => hP' (j + 1) v (by simpa using e))
variable {h₀ : Heap} {L : Addr} {m : Str → Option Value} {news : List (Addr × Obj)}
theorem list_bytes_led {b : Array UInt8} {t : Tok} {ks : List Int} {Q : Value → Shared → Prop} (F : Fr h₀ L s.heap m) (N : News h₀ L s.heap news) (hh : A.handled = none) (hk : KBw.bInts b = ks) (hn : ks.length ≤ 16777216)
    (h : ∀ (D : Addr) (vs : List Value) (c : Nat) (h' : Heap) (tk : Nat), PyProof.Rows.IntsAre vs ks → Fr h₀ L h' m → News h₀ L h' ((D, listOf vs.toArray c) :: news) → (∀ p ∈ news, p.1 < D) → Q (.ref D) { s with heap := h', toks := tk }) :
    wpAny (model prog w) A (call (.type "list") [.bytes b t]) Q E s := by
  refine call_list_bytes hh b t (by rw [← KBw.ints_length, hk, sizeLine_eq]; exact hn) fun h' tk acc' c' hkp hS' hacc => ?_
  refine h _ acc'.toList c' h' tk (hk ▸ octs_ints hacc) (F.keeps hkp) ?_ fun p hp => Heap.lt_size (N p hp).1
  exact news_pushed F N hkp (by rw [hS', Array.toArray_toList]) rfl
end
-- NumO
theorem lines25 : True := by
  w_top off
  trivial
theorem ints_is {b : Array UInt8} {ks ls : List Int} (h : KBw.bInts b = ks) (e : ks = ls) : KBw.bInts b = ls := h.trans e
theorem lines26 : True := by
  (k_with "m_list" => (simp only [List.cons.injEq, and_true]; omega))
  trivial
set_option maxHeartbeats 2000000 in
theorem no2_c (w : World) (mean : ExcName → Option Value) (mg mb : Str → Option Value) (x : Int) (t u : Tok) (news : List (Addr × Obj))
   (h0 : 0 ≤ x) (h1 : x < 65536) :
   Ctr w mean mg mb 1 128 [.int x t, .int 2 u] news (fun v news' => (∃ b t, v = .bytes b t ∧ KBw.bInts b = [x / 256, x % 256]) ∧ news' = news) := by
  k_extra "m_fill"
  unfold Ctr
  intro dp un gd cn cs a ccd cl outer A₀ base h₀ L m s Q E B F X N T hk hdp hun hret
  refine wpAny_call ?_
  k_dflt k_extra "m_enterC"
  k_steps
  all_goals (refine hret _ _ _ _ ⟨⟨_, _, rfl, ints_is (by assumption) (by k_extra "m_list")⟩, rfl⟩ (by assumption) (cb_drop (by assumption) (by k_extra "m_sub")))
set_option maxHeartbeats 2000000 in
theorem no4_c (w : World) (mean : ExcName → Option Value) (mg mb : Str → Option Value) (x : Int) (t u : Tok) (news : List (Addr × Obj))
   (h0 : 0 ≤ x) (h1 : x < 4294967296) :
   Ctr w mean mg mb 1 128 [.int x t, .int 4 u] news (fun v news' => (∃ b t, v = .bytes b t ∧ KBw.bInts b = [x / 16777216, x / 65536 % 256, x / 256 % 256, x % 256]) ∧ news' = news) := by
  k_extra "m_fill"
  unfold Ctr
  intro dp un gd cn cs a ccd cl outer A₀ base h₀ L m s Q E B F X N T hk hdp hun hret
  refine wpAny_call ?_
  k_dflt k_extra "m_enterC"
  k_steps
  all_goals (refine hret _ _ _ _ ⟨⟨_, _, rfl, ints_is (by assumption) (by k_extra "m_list")⟩, rfl⟩ (by assumption) (cb_drop (by assumption) (by k_extra "m_sub")))
set_option maxHeartbeats 2000000 in
theorem no6_c (w : World) (mean : ExcName → Option Value) (mg mb : Str → Option Value) (x : Int) (t u : Tok) (news : List (Addr × Obj))
   (h0 : 0 ≤ x) (h1 : x < 281474976710656) :
   Ctr w mean mg mb 1 128 [.int x t, .int 6 u] news (fun v news' => (∃ b t, v = .bytes b t ∧ KBw.bInts b = [x / 1099511627776, x / 4294967296 % 256, x / 16777216 % 256, x / 65536 % 256, x / 256 % 256, x % 256]) ∧ news' = news) := by
  k_extra "m_fill"
  unfold Ctr
  intro dp un gd cn cs a ccd cl outer A₀ base h₀ L m s Q E B F X N T hk hdp hun hret
  refine wpAny_call ?_
  k_dflt k_extra "m_enterC"
  k_steps
  all_goals (refine hret _ _ _ _ ⟨⟨_, _, rfl, ints_is (by assumption) (by k_extra "m_list")⟩, rfl⟩ (by assumption) (cb_drop (by assumption) (by k_extra "m_sub")))
-- Uses
theorem lines27 : True := by
  w_top off
  trivial
abbrev oct2 (x : Int) : List Int := [x / 256, x % 256]
abbrev oct4 (x : Int) : List Int := [x / 16777216, x / 65536 % 256, x / 256 % 256, x % 256]
abbrev oct6 (x : Int) : List Int := [x / 1099511627776, x / 4294967296 % 256, x / 16777216 % 256, x / 65536 % 256, x / 256 % 256, x % 256]
section
variable {w : World} {mean : ExcName → Option Value} {mg mb : Str → Option Value}
  {dp un : Nat} {gd : Option (List Code)} {cn : Str} {cs : Scope} {a : Addr} {ccd : Value} {cl : List (Str × Addr)} {outer : List Env} {A₀ : Around} {base h₀ : Heap} {L : Addr} {m : Str → Option Value} {s : Shared} {Q E : Value → Shared → Prop}
  {news : List (Addr × Obj)}
theorem no2_use {x : Int} {t u : Tok} (B : Below A₀ base outer h₀) (F : Fr h₀ L s.heap m) (X : (Mine.hd.heap_1 w.params).In h₀) (N : News h₀ L s.heap news) (T : Top Mine.view (looseW Mine.view [Str.ofString "Bpdu"]) mean mg mb h₀) (hk : cs.kind = .function)
  (hd : dp + 1 < recursionLimit) (hu : un + 8 * 1 < cLine) (h0 : 0 ≤ x) (h1 : x < 65536)
  (ret : ∀ (b : Array UInt8) (t : Tok) (h' : Heap) (tk' : Nat), KBw.bInts b = oct2 x → Fr h₀ L h' m → News h₀ L h' news → Q (.bytes b t) { s with heap := h', toks := tk' }) :
  wpAny (model (PySem.Challenge.rw_xm0978_01.prog) w) (ktrTop dp un gd cn cs L a ccd cl outer) (call (.ref 128) [.int x t, .int 2 u]) Q E s := by
  refine Ctr.use (no2_c _ _ _ _ x t u news h0 h1) B F X N T hk hd hu ?_
  rintro _ _ h' tk' ⟨⟨b, t, rfl, hb⟩, rfl⟩ F' N'
  exact ret b t h' tk' hb F' N'
theorem no4_use {x : Int} {t u : Tok} (B : Below A₀ base outer h₀) (F : Fr h₀ L s.heap m) (X : (Mine.hd.heap_1 w.params).In h₀) (N : News h₀ L s.heap news) (T : Top Mine.view (looseW Mine.view [Str.ofString "Bpdu"]) mean mg mb h₀) (hk : cs.kind = .function)
  (hd : dp + 1 < recursionLimit) (hu : un + 8 * 1 < cLine) (h0 : 0 ≤ x) (h1 : x < 4294967296)
  (ret : ∀ (b : Array UInt8) (t : Tok) (h' : Heap) (tk' : Nat), KBw.bInts b = oct4 x → Fr h₀ L h' m → News h₀ L h' news → Q (.bytes b t) { s with heap := h', toks := tk' }) :
  wpAny (model (PySem.Challenge.rw_xm0978_01.prog) w) (ktrTop dp un gd cn cs L a ccd cl outer) (call (.ref 128) [.int x t, .int 4 u]) Q E s := by
  refine Ctr.use (no4_c _ _ _ _ x t u news h0 h1) B F X N T hk hd hu ?_
  rintro _ _ h' tk' ⟨⟨b, t, rfl, hb⟩, rfl⟩ F' N'
  exact ret b t h' tk' hb F' N'
theorem no6_use {x : Int} {t u : Tok} (B : Below A₀ base outer h₀) (F : Fr h₀ L s.heap m) (X : (Mine.hd.heap_1 w.params).In h₀) (N : News h₀ L s.heap news) (T : Top Mine.view (looseW Mine.view [Str.ofString "Bpdu"]) mean mg mb h₀) (hk : cs.kind = .function)
  (hd : dp + 1 < recursionLimit) (hu : un + 8 * 1 < cLine) (h0 : 0 ≤ x) (h1 : x < 281474976710656)
  (ret : ∀ (b : Array UInt8) (t : Tok) (h' : Heap) (tk' : Nat), KBw.bInts b = oct6 x → Fr h₀ L h' m → News h₀ L h' news → Q (.bytes b t) { s with heap := h', toks := tk' }) :
  wpAny (model (PySem.Challenge.rw_xm0978_01.prog) w) (ktrTop dp un gd cn cs L a ccd cl outer) (call (.ref 128) [.int x t, .int 6 u]) Q E s := by
  refine Ctr.use (no6_c _ _ _ _ x t u news h0 h1) B F X N T hk hd hu ?_
  rintro _ _ h' tk' ⟨⟨b, t, rfl, hb⟩, rfl⟩ F' N'
  exact ret b t h' tk' hb F' N'
theorem on2_use {b : Array UInt8} {t : Tok} {k0 k1 : Int} (B : Below A₀ base outer h₀) (F : Fr h₀ L s.heap m) (X : (Mine.hd.heap_1 w.params).In h₀) (N : News h₀ L s.heap news) (T : Top Mine.view (looseW Mine.view [Str.ofString "Bpdu"]) mean mg mb h₀) (hk : cs.kind = .function)
  (hd : dp + 1 < recursionLimit) (hu : un + 8 * 1 < cLine) (hb : KBw.bInts b = [k0, k1])
  (ret : ∀ (x : Int) (t : Tok) (h' : Heap) (tk' : Nat), x = k0 * 256 + k1 → Fr h₀ L h' m → News h₀ L h' news → Q (.int x t) { s with heap := h', toks := tk' }) :
  wpAny (model (PySem.Challenge.rw_xm0978_01.prog) w) (ktrTop dp un gd cn cs L a ccd cl outer) (call (.ref 135) [.bytes b t]) Q E s := by
  refine Ctr.use (on2_c _ _ _ _ b t k0 k1 news hb) B F X N T hk hd hu ?_
  rintro _ _ h' tk' ⟨⟨t, rfl⟩, rfl⟩ F' N'
  exact ret _ t h' tk' rfl F' N'
theorem on4_use {b : Array UInt8} {t : Tok} {k0 k1 k2 k3 : Int} (B : Below A₀ base outer h₀) (F : Fr h₀ L s.heap m) (X : (Mine.hd.heap_1 w.params).In h₀) (N : News h₀ L s.heap news) (T : Top Mine.view (looseW Mine.view [Str.ofString "Bpdu"]) mean mg mb h₀) (hk : cs.kind = .function)
  (hd : dp + 1 < recursionLimit) (hu : un + 8 * 1 < cLine) (hb : KBw.bInts b = [k0, k1, k2, k3])
  (ret : ∀ (x : Int) (t : Tok) (h' : Heap) (tk' : Nat), x = k0 * 16777216 + k1 * 65536 + k2 * 256 + k3 → Fr h₀ L h' m → News h₀ L h' news → Q (.int x t) { s with heap := h', toks := tk' }) :
  wpAny (model (PySem.Challenge.rw_xm0978_01.prog) w) (ktrTop dp un gd cn cs L a ccd cl outer) (call (.ref 135) [.bytes b t]) Q E s := by
  refine Ctr.use (on4_c _ _ _ _ b t k0 k1 k2 k3 news hb) B F X N T hk hd hu ?_
  rintro _ _ h' tk' ⟨⟨t, rfl⟩, rfl⟩ F' N'
  exact ret _ t h' tk' rfl F' N'
theorem on6_use {b : Array UInt8} {t : Tok} {k0 k1 k2 k3 k4 k5 : Int} (B : Below A₀ base outer h₀) (F : Fr h₀ L s.heap m) (X : (Mine.hd.heap_1 w.params).In h₀) (N : News h₀ L s.heap news) (T : Top Mine.view (looseW Mine.view [Str.ofString "Bpdu"]) mean mg mb h₀) (hk : cs.kind = .function)
  (hd : dp + 1 < recursionLimit) (hu : un + 8 * 1 < cLine) (hb : KBw.bInts b = [k0, k1, k2, k3, k4, k5])
  (ret : ∀ (x : Int) (t : Tok) (h' : Heap) (tk' : Nat), x = k0 * 1099511627776 + k1 * 4294967296 + k2 * 16777216 + k3 * 65536 + k4 * 256 + k5 → Fr h₀ L h' m → News h₀ L h' news → Q (.int x t) { s with heap := h', toks := tk' }) :
  wpAny (model (PySem.Challenge.rw_xm0978_01.prog) w) (ktrTop dp un gd cn cs L a ccd cl outer) (call (.ref 135) [.bytes b t]) Q E s := by
  refine Ctr.use (on6_c _ _ _ _ b t k0 k1 k2 k3 k4 k5 news hb) B F X N T hk hd hu ?_
  rintro _ _ h' tk' ⟨⟨t, rfl⟩, rfl⟩ F' N'
  exact ret _ t h' tk' rfl F' N'
end
section
variable {prog : Program} {w : World} {A : Around} {E : Value → Shared → Prop} {s : Shared} {h₀ : Heap} {L D : Addr} {m : Str → Option Value} {news : List (Addr × Obj)} {value slice : PySem.Expr}
/-- a part of bytes known int by int -/
theorem b_slice {b : Array UInt8} {t : Tok} {ks : List Int} {l u : Value} {lo hi : Option Int} {Q : Value → Shared → Prop} (ls : List Int) (hF : Fr h₀ L s.heap m) (hN : News h₀ L s.heap news) (hk : KBw.bInts b = ks) (hl : PySem.IsPart l lo) (hu : PySem.IsPart u hi) (hz : ks.length ≤ 16777216)
    (e : (ks.drop (lo.elim 0 (clipAt ks.length))).take (hi.elim ks.length (clipAt ks.length) - lo.elim 0 (clipAt ks.length)) = ls)
    (h : ∀ b' h' t' k, Fr h₀ L h' m → News h₀ L h' news → KBw.bInts b' = ls → Q (.bytes b' t') { s with heap := h', toks := k })
    (hs : subscripted slice false (.bytes b t) (.ref s.heap.objs.size) = operate [.ref s.heap.objs.size, .bytes b t] (getItem (.bytes b t) (.ref s.heap.objs.size)) := by with_unfolding_all rfl)
    (ht : ∀ r, letTemporaryGo value (.bytes b t) r = pure () := by intro _; with_unfolding_all rfl) :
    wpAny (model prog w) A (subscriptTail value slice (.bytes b t) (.ref s.heap.objs.size)) Q E { s with heap := s.heap.push { cls := .type "slice", data := .fields #[l, u, .none] } } :=
  KBc.slice_K hF hN hk hl hu hz (fun h' t' k F' N' hb => h _ h' t' k F' N' (hb.trans e)) hs ht
theorem b_add {b c : Array UInt8} {t u : Tok} {ks ls : List Int} {Q : Value → Shared → Prop} (hb : KBw.bInts b = ks) (hc : KBw.bInts c = ls) (hsz : ks.length + ls.length ≤ 16777216) (h : ∀ d t' k, KBw.bInts d = ks ++ ls → Q (.bytes d t') { s with toks := k }) : wpAny (model prog w) A (binaryOp .Add (.bytes b t) (.bytes c u)) Q E s :=
  KBa.add_K hb hc hsz fun t' k e => h _ t' k e
end
theorem lines28 : True := by
  (k_with "m_ints_of" => first | with_reducible assumption | assumption)
  (k_with "m_size" => first | decide | (simp only [List.length_cons, List.length_nil, List.length_append]; done) | (simp only [List.length_cons, List.length_nil, List.length_append]; omega))
  (k_with "call ref" => (k_here; (with_reducible show wpAny _ _ (call (Value.ref 128) [Value.int _ _, Value.int _ _]) _ _ _); k_dflt (first
  | ((with_reducible show wpAny _ _ (call (Value.ref 128) [Value.int _ _, Value.int 2 _]) _ _ _); refine' no2_use ?z46k1 ?z46k2 ?z46k3 ?z46k4 ?z46k5 ?z46k6 ?z46k7 ?z46k8 ?z46x0 ?z46x1 ?_)
  | ((with_reducible show wpAny _ _ (call (Value.ref 128) [Value.int _ _, Value.int 4 _]) _ _ _); refine' no4_use ?z46k1 ?z46k2 ?z46k3 ?z46k4 ?z46k5 ?z46k6 ?z46k7 ?z46k8 ?z46x0 ?z46x1 ?_)
  | ((with_reducible show wpAny _ _ (call (Value.ref 128) [Value.int _ _, Value.int 6 _]) _ _ _); refine' no6_use ?z46k1 ?z46k2 ?z46k3 ?z46k4 ?z46k5 ?z46k6 ?z46k7 ?z46k8 ?z46x0 ?z46x1 ?_)); k_dflt ((case z46k1 => k_asm); (case z46k2 => k_asm); (case z46k3 => k_asm); (case z46k4 => k_asm); (case z46k5 => k_asm); (case z46k6 => first | exact rfl | assumption); (case z46k7 => ktr_room); (case z46k8 => ktr_units); (case z46x0 => k_extra "m_num"); (case z46x1 => k_extra "m_num")); intro b' t' h' tk' hb' F' N'; (try dsimp only); (try k_sweep)))
  (k_with "call ref" => (k_here; (with_reducible show wpAny _ _ (call (Value.ref 135) [Value.bytes _ _]) _ _ _); k_dflt (first
  | (refine' on2_use ?z47k1 ?z47k2 ?z47k3 ?z47k4 ?z47k5 ?z47k6 ?z47k7 ?z47k8 ?z47hb ?_; (case z47hb => k_extra "m_ints_of"))
  | (refine' on4_use ?z47k1 ?z47k2 ?z47k3 ?z47k4 ?z47k5 ?z47k6 ?z47k7 ?z47k8 ?z47hb ?_; (case z47hb => k_extra "m_ints_of"))
  | (refine' on6_use ?z47k1 ?z47k2 ?z47k3 ?z47k4 ?z47k5 ?z47k6 ?z47k7 ?z47k8 ?z47hb ?_; (case z47hb => k_extra "m_ints_of"))); k_dflt ((case z47k1 => k_asm); (case z47k2 => k_asm); (case z47k3 => k_asm); (case z47k4 => k_asm); (case z47k5 => k_asm); (case z47k6 => first | exact rfl | assumption); (case z47k7 => ktr_room); (case z47k8 => ktr_units)); intro x' t' h' tk' e' F' N'; (try dsimp only); (try k_sweep)))
  (k_with "subscriptTail" => (k_here; (with_reducible show wpAny _ _ (subscriptTail _ (Expr.Slice _ _ none _) (Value.bytes _ _) (Value.ref _)) _ _ _); (with_reducible rename Fr _ _ _ _ => F'); (with_reducible rename News _ _ _ _ => N'); (first
  | (refine' b_slice (s := ⟨_, _, _, _, _⟩) [_, _] F' N' ?z48k ?z48l ?z48u ?z48z ?z48e ?_; (case z48k => k_extra "m_ints_of"); (case z48l => constructor); (case z48u => constructor); (case z48e => with_unfolding_all rfl))
  | (refine' b_slice (s := ⟨_, _, _, _, _⟩) [_, _, _, _] F' N' ?z48k ?z48l ?z48u ?z48z ?z48e ?_; (case z48k => k_extra "m_ints_of"); (case z48l => constructor); (case z48u => constructor); (case z48e => with_unfolding_all rfl))
  | (refine' b_slice (s := ⟨_, _, _, _, _⟩) [_, _, _, _, _, _] F' N' ?z48k ?z48l ?z48u ?z48z ?z48e ?_; (case z48k => k_extra "m_ints_of"); (case z48l => constructor); (case z48u => constructor); (case z48e => with_unfolding_all rfl))
  | (refine' b_slice (s := ⟨_, _, _, _, _⟩) [_, _, _, _, _, _, _, _, _, _] F' N' ?z48k ?z48l ?z48u ?z48z ?z48e ?_; (case z48k => k_extra "m_ints_of"); (case z48l => constructor); (case z48u => constructor); (case z48e => with_unfolding_all rfl))); (case z48z => k_extra "m_size"); clear F' N'; intro b' h' t' k' F' N' hb'; (try k_sweep)))
  (k_with "binaryOp Add bytes bytes" => (k_here; (with_reducible show wpAny _ _ (binaryOp Operator.Add (Value.bytes _ _) (Value.bytes _ _)) _ _ _); (refine' b_add ?z49b ?z49c ?z49z ?_; (case z49b => k_extra "m_ints_of"); (case z49c => k_extra "m_ints_of"); (case z49z => k_extra "m_size")); intro d' t' k' hd'))
  (k_with "call type:list" => (k_here; (with_reducible show wpAny _ _ (call (Value.type "list") [Value.bytes _ _]) _ _ _); k_dflt (refine' list_bytes_led ?z50F ?z50N ?z50hh ?z50k ?z50z ?_; (case z50F => k_asm); (case z50N => k_asm); (case z50hh => rfl); (case z50k => k_extra "m_ints_of"); (case z50z => k_extra "m_size")); intro D' vs' c' h' tk' i' F' N' l1; (try k_lt l1); (try k_sweep)))
  trivial
-- Vec
theorem lines29 : True := by
  w_top off
  trivial
section
variable {prog : Program} {w : World} {A : Around} {E : Value → Shared → Prop} {s : Shared}
theorem mod_e {a b : Int} {t u : Tok} {Q : Value → Shared → Prop} (hb : 0 < b) (h : ∀ r : Int, r = a % b → 0 ≤ r → r < b → Q (.int r s.toks) { s with toks := s.toks + 1 }) :
   wpAny (model prog w) A (binaryOp .Mod (.int a t) (.int b u)) Q E s :=
  mod_int' (by omega) (h _ (Int.fmod_eq_emod_of_nonneg _ (by omega)) (Int.fmod_nonneg_of_pos _ hb) (Int.fmod_lt_of_pos _ hb))
theorem or_lit {a b : Int} {t u : Tok} {Q : Value → Shared → Prop} (k : Nat) (P : Int) (hP : (2 : Int) ^ k = P) (h0 : 0 ≤ a) (hq : a % P = 0) (h1 : 0 ≤ b) (h2 : b < P) (h : ∀ r : Int, r = a + b → Q (.int r s.toks) { s with toks := s.toks + 1 }) :
   wpAny (model prog w) A (binaryOp .BitOr (.int a t) (.int b u)) Q E s := by
  refine or_int (h _ ?_)
  subst hP
  have hp : (0 : Int) < 2 ^ k := kbt_pos k
  have e : a = a / 2 ^ k * 2 ^ k := (Int.ediv_mul_cancel (Int.dvd_of_emod_eq_zero hq)).symm
  have hd : 0 ≤ a / 2 ^ k := Int.ediv_nonneg h0 (Int.le_of_lt hp)
  generalize a / 2 ^ k = q at e hd
  subst e
  exact or_low hd h1 h2
end
theorem lines30 : True := by
  (k_with "binaryOp Mod int int" => (k_here; (refine' mod_e ?z51k1 ?_; (case z51k1 => k_extra "m_num")); intro r' e' a' b'))
  (k_with "binaryOp BitOr int int" => (k_here; (first
  | (refine' or_lit 8 256 ?z52p ?z52k1 ?z52k2 ?z52k3 ?z52k4 ?_; (case z52p => k_extra "m_pw"); (case z52k1 => k_extra "m_num"); (case z52k2 => k_extra "m_num"); (case z52k3 => k_extra "m_num"); (case z52k4 => k_extra "m_num"))
  | (refine' or_lit 12 4096 ?z52p ?z52k1 ?z52k2 ?z52k3 ?z52k4 ?_; (case z52p => k_extra "m_pw"); (case z52k1 => k_extra "m_num"); (case z52k2 => k_extra "m_num"); (case z52k3 => k_extra "m_num"); (case z52k4 => k_extra "m_num"))); intro r' e'))
  (k_with "exec Raise some none" => (exfalso; omega))
  trivial
abbrev octB (x y : Int) : List Int := oct2 x ++ oct6 y
set_option maxHeartbeats 2000000 in
theorem brO_c (w : World) (mean : ExcName → Option Value) (mg mb : Str → Option Value) (tb : Addr) (x y : Int) (tx ty : Tok) (n : Nat) (news : List (Addr × Obj))
   (hm : (tb, tupOf [.int x tx, .int y ty] n) ∈ news) (h0 : 0 ≤ x) (h1 : x ≤ 65535) (h2 : 0 ≤ y) (h3 : y ≤ 281474976710655) :
   Ctr w mean mg mb 2 142 [.ref tb] news (fun v news' => (∃ b t, v = .bytes b t ∧ KBw.bInts b = octB x y) ∧ news' = news) := by
  k_extra "m_fill"
  unfold Ctr
  intro dp un gd cn cs a ccd cl outer A₀ base h₀ L m s Q E B F X N T hk hdp hun hret
  refine wpAny_call ?_
  k_dflt cell_enter
  k_steps
  all_goals (refine hret _ _ _ _ ⟨⟨_, _, rfl, by assumption⟩, rfl⟩ (by assumption) (cb_drop (by assumption) (by k_extra "m_sub")))
set_option maxHeartbeats 2000000 in
theorem poO_c (w : World) (mean : ExcName → Option Value) (mg mb : Str → Option Value) (tb : Addr) (x y q : Int) (tx ty : Tok) (n : Nat) (news : List (Addr × Obj))
   (hm : (tb, tupOf [.int x tx, .int y ty] n) ∈ news) (hq : x = 16 * q) (h0 : 0 ≤ q) (h1 : q < 16) (h2 : 0 ≤ y) (h3 : y ≤ 4095) :
   Ctr w mean mg mb 2 149 [.ref tb] news (fun v news' => (∃ b t, v = .bytes b t ∧ KBw.bInts b = [x + y / 256, y % 256]) ∧ news' = news) := by
  k_extra "m_fill"
  unfold Ctr
  intro dp un gd cn cs a ccd cl outer A₀ base h₀ L m s Q E B F X N T hk hdp hun hret
  refine wpAny_call ?_
  k_dflt cell_enter
  k_steps
  all_goals (refine hret _ _ _ _ ⟨⟨_, _, rfl, ints_is (by assumption) (by k_extra "m_list")⟩, rfl⟩ (by assumption) (cb_drop (by assumption) (by k_extra "m_sub")))
-- Vec2
theorem lines31 : True := by
  w_top off
  trivial
abbrev RB (ks : List Int) (news : List (Addr × Obj)) : Value → List (Addr × Obj) → Prop := fun v news' => (∃ b t, v = .bytes b t ∧ KBw.bInts b = ks) ∧ news' = news
section
variable {w : World} {mean : ExcName → Option Value} {mg mb : Str → Option Value}
  {dp un : Nat} {gd : Option (List Code)} {cn : Str} {cs : Scope} {a : Addr} {ccd : Value} {cl : List (Str × Addr)} {outer : List Env} {A₀ : Around} {base h₀ : Heap} {L : Addr} {m : Str → Option Value} {s : Shared} {Q E : Value → Shared → Prop}
  {news : List (Addr × Obj)} {dd : Nat} {f : Addr} {vs : List Value} {ks : List Int}
theorem useB (B : Below A₀ base outer h₀) (F : Fr h₀ L s.heap m) (X : (Mine.hd.heap_1 w.params).In h₀) (N : News h₀ L s.heap news) (T : Top Mine.view (looseW Mine.view [Str.ofString "Bpdu"]) mean mg mb h₀) (hk : cs.kind = .function)
  (C : Ctr w mean mg mb dd f vs news (RB ks news)) (hd : dp + dd < recursionLimit) (hu : un + 8 * dd < cLine)
  (ret : ∀ (b : Array UInt8) (t : Tok) (h' : Heap) (tk' : Nat), KBw.bInts b = ks → Fr h₀ L h' m → News h₀ L h' news → Q (.bytes b t) { s with heap := h', toks := tk' }) :
  wpAny (model (PySem.Challenge.rw_xm0978_01.prog) w) (ktrTop dp un gd cn cs L a ccd cl outer) (call (.ref f) vs) Q E s := by
  refine Ctr.use C B F X N T hk hd hu ?_
  rintro _ _ h' tk' ⟨⟨b, t, rfl, hb⟩, rfl⟩ F' N'
  exact ret b t h' tk' hb F' N'
end
theorem lines32 : True := by
  (k_with "m_call" => ((case k1 => k_asm); (case k2 => k_asm); (case k3 => k_asm); (try (case k4 => k_asm)); (case k5 => k_asm); (case k6 => first | exact rfl | assumption); (case k7 => ktr_room); (case k8 => ktr_units)))
  (k_with "call ref" => (k_here; (with_reducible show wpAny _ _ (call (Value.ref 142) [Value.ref _]) _ _ _); k_dflt (refine' useB ?z55k1 ?z55k2 ?z55k3 ?z55k4 ?z55k5 ?z55k6 (brO_c _ _ _ _ _ _ _ _ _ _ _ ?z55m ?z55x0 ?z55x1 ?z55x2 ?z55x3) ?z55k7 ?z55k8 ?_; (case z55k4 => k_asm); (case z55m => k_mem); (case z55x0 => k_extra "m_num"); (case z55x1 => k_extra "m_num"); (case z55x2 => k_extra "m_num"); (case z55x3 => k_extra "m_num"); ((case z55k1 => k_asm); (case z55k2 => k_asm); (case z55k3 => k_asm); (try (case z55k4 => k_asm)); (case z55k5 => k_asm); (case z55k6 => first | exact rfl | assumption); (case z55k7 => ktr_room); (case z55k8 => ktr_units))); intro b' t' h' tk' hb' F' N'; (try dsimp only); (try k_sweep)))
  (k_with "call ref" => (k_here; (with_reducible show wpAny _ _ (call (Value.ref 149) [Value.ref _]) _ _ _); k_dflt (refine' useB ?z56k1 ?z56k2 ?z56k3 ?z56k4 ?z56k5 ?z56k6 (poO_c _ _ _ _ _ _ _ _ _ _ _ _ ?z56m ?z56hq ?z56x0 ?z56x1 ?z56x2 ?z56x3) ?z56k7 ?z56k8 ?_; (case z56k4 => k_asm); (case z56m => k_mem); (case z56hq => assumption); (case z56x0 => k_extra "m_num"); (case z56x1 => k_extra "m_num"); (case z56x2 => k_extra "m_num"); (case z56x3 => k_extra "m_num"); ((case z56k1 => k_asm); (case z56k2 => k_asm); (case z56k3 => k_asm); (try (case z56k4 => k_asm)); (case z56k5 => k_asm); (case z56k6 => first | exact rfl | assumption); (case z56k7 => ktr_room); (case z56k8 => ktr_units))); intro b' t' h' tk' hb' F' N'; (try dsimp only); (try k_sweep)))
  trivial
abbrev rowOf (x1 y1 c x2 y2 pr pn : Int) : List Int := ((octB x1 y1 ++ oct4 c) ++ octB x2 y2) ++ [pr + pn / 256, pn % 256]
set_option maxHeartbeats 2000000 in
theorem vecO_c (w : World) (mean : ExcName → Option Value) (mg mb : Str → Option Value) (tv b1 b2 pp : Addr) (x1 y1 c x2 y2 pr pn q : Int) (t1 t2 t3 t4 t5 t6 t7 : Tok) (n0 n1 n2 n3 : Nat) (news : List (Addr × Obj))
   (hv : (tv, tupOf [.ref b1, .int c t3, .ref b2, .ref pp] n0) ∈ news) (hm1 : (b1, tupOf [.int x1 t1, .int y1 t2] n1) ∈ news) (hm2 : (b2, tupOf [.int x2 t4, .int y2 t5] n2) ∈ news) (hm3 : (pp, tupOf [.int pr t6, .int pn t7] n3) ∈ news)
   (h0 : 0 ≤ x1) (h1 : x1 ≤ 65535) (h2 : 0 ≤ y1) (h3 : y1 ≤ 281474976710655) (h4 : 0 ≤ c) (h5 : c ≤ 4294967295) (h6 : 0 ≤ x2) (h7 : x2 ≤ 65535) (h8 : 0 ≤ y2) (h9 : y2 ≤ 281474976710655)
   (hq : pr = 16 * q) (h10 : 0 ≤ q) (h11 : q < 16) (h12 : 0 ≤ pn) (h13 : pn ≤ 4095) :
   Ctr w mean mg mb 3 156 [.ref tv] news (RB (rowOf x1 y1 c x2 y2 pr pn) news) := by
  k_extra "m_fill"
  unfold Ctr
  intro dp un gd cn cs a ccd cl outer A₀ base h₀ L m s Q E B F X N T hk hdp hun hret
  refine wpAny_call ?_
  k_dflt cell_enter
  k_steps
  all_goals exact hret _ _ _ _ ⟨⟨_, _, rfl, by assumption⟩, rfl⟩ (by assumption) (cb_drop (by assumption) (by k_extra "m_sub"))
-- Rd
theorem lines33 : True := by
  w_top off
  trivial
/-- a new pair of ints -/
abbrev RT2 (x y : Int) (news : List (Addr × Obj)) : Value → List (Addr × Obj) → Prop := fun v news' => ∃ (d : Addr) (tx ty : Tok), v = .ref d ∧ AllLt d news ∧ news' = (d, tupOf [.int x tx, .int y ty] 0) :: news
section
variable {w : World} {mean : ExcName → Option Value} {mg mb : Str → Option Value}
  {dp un : Nat} {gd : Option (List Code)} {cn : Str} {cs : Scope} {a : Addr} {ccd : Value} {cl : List (Str × Addr)} {outer : List Env} {A₀ : Around} {base h₀ : Heap} {L : Addr} {m : Str → Option Value} {s : Shared} {Q E : Value → Shared → Prop}
  {news : List (Addr × Obj)} {dd : Nat} {f : Addr} {vs : List Value} {x y : Int}
theorem useT2 (B : Below A₀ base outer h₀) (F : Fr h₀ L s.heap m) (X : (Mine.hd.heap_1 w.params).In h₀) (N : News h₀ L s.heap news) (T : Top Mine.view (looseW Mine.view [Str.ofString "Bpdu"]) mean mg mb h₀) (hk : cs.kind = .function)
  (C : Ctr w mean mg mb dd f vs news (RT2 x y news)) (hd : dp + dd < recursionLimit) (hu : un + 8 * dd < cLine)
  (ret : ∀ (d : Addr) (z z' : Int) (tx ty : Tok) (h' : Heap) (tk' : Nat), z = x → z' = y → AllLt d news → Fr h₀ L h' m → News h₀ L h' ((d, tupOf [.int z tx, .int z' ty] 0) :: news) → Q (.ref d) { s with heap := h', toks := tk' }) :
  wpAny (model (PySem.Challenge.rw_xm0978_01.prog) w) (ktrTop dp un gd cn cs L a ccd cl outer) (call (.ref f) vs) Q E s := by
  refine Ctr.use C B F X N T hk hd hu ?_
  rintro _ _ h' tk' ⟨d, tx, ty, rfl, hl, rfl⟩ F' N'
  exact ret d x y tx ty h' tk' rfl rfl hl F' N'
theorem rt2_mk {d : Addr} {z z' : Int} {tx ty : Tok} (e1 : z = x) (e2 : z' = y) (hl : AllLt d news) : RT2 x y news (.ref d) ((d, tupOf [.int z tx, .int z' ty] 0) :: news) := by
  subst e1 e2
  exact ⟨d, tx, ty, rfl, hl, rfl⟩
theorem shl_lit {prog : Program} {A : Around} {b n : Int} {t u : Tok} (k : Nat) (P : Int) (hP : (2 : Int) ^ k = P) (hn : n = (k : Int)) (hk : k ≤ 1000000) (ha : b.natAbs < 2 ^ 64) (h : ∀ r : Int, r = b * P → Q (.int r s.toks) { s with toks := s.toks + 1 }) :
   wpAny (model prog w) A (binaryOp .LShift (.int b t) (.int n u)) Q E s := shl_eq k (b * P) hn hk ha (by rw [hP]) (h _ rfl)
theorem allLt_mem {d : Addr} {l : List (Addr × Obj)} (h : ∀ p ∈ l, p.1 < d) : AllLt d l := allLt_of h
end
theorem lines34 : True := by
  (k_with "binaryOp LShift int int" => (k_here; (with_reducible show wpAny _ _ (binaryOp Operator.LShift (Value.int _ _) (Value.int 4 _)) _ _ _); (refine' shl_lit 4 16 ?z57p ?z57n ?z57k ?z57a ?_; (case z57p => k_extra "m_pw"); (case z57n => k_extra "m_eqn"); (case z57k => decide); (case z57a => omega)); intro r' e'))
  (k_with "m_all" => first | assumption | exact allLt_mem (by assumption) | k_extra "m_lt")
  trivial
set_option maxHeartbeats 2000000 in
theorem rdB22_c (w : World) (mean : ExcName → Option Value) (mg mb : Str → Option Value) (b : Array UInt8) (t : Tok) (k0 k1 k2 k3 k4 k5 k6 k7 k8 k9 k10 k11 k12 k13 k14 k15 k16 k17 k18 k19 k20 k21 : Int) (news : List (Addr × Obj))
   (hb : KBw.bInts b = [k0, k1, k2, k3, k4, k5, k6, k7, k8, k9, k10, k11, k12, k13, k14, k15, k16, k17, k18, k19, k20, k21]) :
   Ctr w mean mg mb 2 177 [.bytes b t] news (RT2 (k0 * 256 + k1) (k2 * 1099511627776 + k3 * 4294967296 + k4 * 16777216 + k5 * 65536 + k6 * 256 + k7) news) := by
  k_extra "m_fill"
  unfold Ctr
  intro dp un gd cn cs a ccd cl outer A₀ base h₀ L m s Q E B F X N T hk hdp hun hret
  refine wpAny_call ?_
  k_dflt cell_enter
  k_steps
  all_goals (refine' hret _ _ _ _ (rt2_mk ?e1 ?e2 ?lt) ?F ?N; (case F => assumption); (case N => exact cb_drop (by assumption) (by k_extra "m_sub")); (case e1 => omega); (case e2 => omega); (case lt => k_extra "m_all"))
set_option maxHeartbeats 2000000 in
theorem rdB10_c (w : World) (mean : ExcName → Option Value) (mg mb : Str → Option Value) (b : Array UInt8) (t : Tok) (k0 k1 k2 k3 k4 k5 k6 k7 k8 k9 : Int) (news : List (Addr × Obj))
   (hb : KBw.bInts b = [k0, k1, k2, k3, k4, k5, k6, k7, k8, k9]) :
   Ctr w mean mg mb 2 177 [.bytes b t] news (RT2 (k0 * 256 + k1) (k2 * 1099511627776 + k3 * 4294967296 + k4 * 16777216 + k5 * 65536 + k6 * 256 + k7) news) := by
  k_extra "m_fill"
  unfold Ctr
  intro dp un gd cn cs a ccd cl outer A₀ base h₀ L m s Q E B F X N T hk hdp hun hret
  refine wpAny_call ?_
  k_dflt cell_enter
  k_steps
  all_goals (refine' hret _ _ _ _ (rt2_mk ?e1 ?e2 ?lt) ?F ?N; (case F => assumption); (case N => exact cb_drop (by assumption) (by k_extra "m_sub")); (case e1 => omega); (case e2 => omega); (case lt => k_extra "m_all"))
set_option maxHeartbeats 2000000 in
theorem rdP_c (w : World) (mean : ExcName → Option Value) (mg mb : Str → Option Value) (b : Array UInt8) (t : Tok) (k0 k1 : Int) (news : List (Addr × Obj))
   (hb : KBw.bInts b = [k0, k1]) (h0 : 0 ≤ k0) (h1 : k0 < 256) (h2 : 0 ≤ k1) (h3 : k1 < 256) :
   Ctr w mean mg mb 2 184 [.bytes b t] news (RT2 (k0 / 16 * 16) (k0 % 16 * 256 + k1) news) := by
  k_extra "m_fill"
  unfold Ctr
  intro dp un gd cn cs a ccd cl outer A₀ base h₀ L m s Q E B F X N T hk hdp hun hret
  refine wpAny_call ?_
  k_dflt cell_enter
  k_steps
  all_goals (refine' hret _ _ _ _ (rt2_mk ?e1 ?e2 ?lt) ?F ?N; (case F => assumption); (case N => exact cb_drop (by assumption) (by k_extra "m_sub")); (case e1 => omega); (case e2 => omega); (case lt => k_extra "m_all"))
-- RdV
theorem lines35 : True := by
  w_top off
  (k_with "call ref" => (k_here; (with_reducible show wpAny _ _ (call (Value.ref 177) [Value.bytes _ _]) _ _ _); k_dflt (first
  | (refine' useT2 ?z59k1 ?z59k2 ?z59k3 ?z59k4 ?z59k5 ?z59k6 (rdB22_c _ _ _ _ _ _ _ _ _ _ _ _ _ _ _ _ _ _ _ _ _ _ _ _ _ _ _ _ _ ?z59hb) ?z59k7 ?z59k8 ?_; (case z59hb => k_extra "m_ints_of"))
  | (refine' useT2 ?z59k1 ?z59k2 ?z59k3 ?z59k4 ?z59k5 ?z59k6 (rdB10_c _ _ _ _ _ _ _ _ _ _ _ _ _ _ _ _ _ ?z59hb) ?z59k7 ?z59k8 ?_; (case z59hb => k_extra "m_ints_of"))); k_dflt ((case z59k1 => k_asm); (case z59k2 => k_asm); (case z59k3 => k_asm); (try (case z59k4 => k_asm)); (case z59k5 => k_asm); (case z59k6 => first | exact rfl | assumption); (case z59k7 => ktr_room); (case z59k8 => ktr_units)); intro d' z' y' tx' ty' h' tk' e1' e2' l1 F' N'; (try simp only [AllLt, and_true] at l1); (try dsimp only); (try k_sweep)))
  (k_with "call ref" => (k_here; (with_reducible show wpAny _ _ (call (Value.ref 184) [Value.bytes _ _]) _ _ _); k_dflt (refine' useT2 ?z60k1 ?z60k2 ?z60k3 ?z60k4 ?z60k5 ?z60k6 (rdP_c _ _ _ _ _ _ _ _ _ ?z60hb ?z60x0 ?z60x1 ?z60x2 ?z60x3) ?z60k7 ?z60k8 ?_; (case z60hb => k_extra "m_ints_of"); (case z60x0 => k_extra "m_num"); (case z60x1 => k_extra "m_num"); (case z60x2 => k_extra "m_num"); (case z60x3 => k_extra "m_num")); k_dflt ((case z60k1 => k_asm); (case z60k2 => k_asm); (case z60k3 => k_asm); (try (case z60k4 => k_asm)); (case z60k5 => k_asm); (case z60k6 => first | exact rfl | assumption); (case z60k7 => ktr_room); (case z60k8 => ktr_units)); intro d' z' y' tx' ty' h' tk' e1' e2' l1 F' N'; (try simp only [AllLt, and_true] at l1); (try dsimp only); (try k_sweep)))
  trivial
/-- a new vector -/
abbrev RV (x1 y1 c x2 y2 pr pn : Int) (news : List (Addr × Obj)) : Value → List (Addr × Obj) → Prop := fun v news' => ∃ (d d1 d2 d3 : Addr) (t1 t2 t3 t4 t5 t6 t7 : Tok), v = .ref d ∧
  news' = (d, tupOf [.ref d1, .int c t3, .ref d2, .ref d3] 0) :: (d3, tupOf [.int pr t6, .int pn t7] 0) :: (d2, tupOf [.int x2 t4, .int y2 t5] 0) :: (d1, tupOf [.int x1 t1, .int y1 t2] 0) :: news
theorem rv_mk {x1 y1 c x2 y2 pr pn x1' y1' c' x2' y2' pr' pn' : Int} {news : List (Addr × Obj)} {d d1 d2 d3 : Addr} {t1 t2 t3 t4 t5 t6 t7 : Tok} (e1 : x1' = x1) (e2 : y1' = y1) (e3 : c' = c) (e4 : x2' = x2) (e5 : y2' = y2) (e6 : pr' = pr) (e7 : pn' = pn) :
   RV x1 y1 c x2 y2 pr pn news (.ref d) ((d, tupOf [.ref d1, .int c' t3, .ref d2, .ref d3] 0) :: (d3, tupOf [.int pr' t6, .int pn' t7] 0) :: (d2, tupOf [.int x2' t4, .int y2' t5] 0) :: (d1, tupOf [.int x1' t1, .int y1' t2] 0) :: news) := by
  subst e1 e2 e3 e4 e5 e6 e7
  exact ⟨d, d1, d2, d3, t1, t2, t3, t4, t5, t6, t7, rfl, rfl⟩
set_option maxHeartbeats 4000000 in
theorem rdV_c (w : World) (mean : ExcName → Option Value) (mg mb : Str → Option Value) (b : Array UInt8) (t : Tok) (k0 k1 k2 k3 k4 k5 k6 k7 k8 k9 k10 k11 k12 k13 k14 k15 k16 k17 k18 k19 k20 k21 : Int) (news : List (Addr × Obj))
   (hb : KBw.bInts b = [k0, k1, k2, k3, k4, k5, k6, k7, k8, k9, k10, k11, k12, k13, k14, k15, k16, k17, k18, k19, k20, k21]) (h0 : 0 ≤ k20) (h1 : k20 < 256) (h2 : 0 ≤ k21) (h3 : k21 < 256) :
   Ctr w mean mg mb 3 191 [.bytes b t] news (RV (k0 * 256 + k1) (k2 * 1099511627776 + k3 * 4294967296 + k4 * 16777216 + k5 * 65536 + k6 * 256 + k7) (k8 * 16777216 + k9 * 65536 + k10 * 256 + k11)
     (k12 * 256 + k13) (k14 * 1099511627776 + k15 * 4294967296 + k16 * 16777216 + k17 * 65536 + k18 * 256 + k19) (k20 / 16 * 16) (k20 % 16 * 256 + k21) news) := by
  k_extra "m_fill"
  unfold Ctr
  intro dp un gd cn cs a ccd cl outer A₀ base h₀ L m s Q E B F X N T hk hdp hun hret
  refine wpAny_call ?_
  k_dflt cell_enter
  k_steps
  all_goals (refine' hret _ _ _ _ (rv_mk ?e1 ?e2 ?e3 ?e4 ?e5 ?e6 ?e7) ?F ?N; (case F => assumption); (case N => exact cb_drop (by assumption) (by k_extra "m_sub")); (case e1 => assumption); (case e2 => assumption); (case e3 => assumption); (case e4 => assumption); (case e5 => assumption); (case e6 => assumption); (case e7 => assumption))
section
variable {w : World} {mean : ExcName → Option Value} {mg mb : Str → Option Value}
  {dp un : Nat} {gd : Option (List Code)} {cn : Str} {cs : Scope} {a : Addr} {ccd : Value} {cl : List (Str × Addr)} {outer : List Env} {A₀ : Around} {base h₀ : Heap} {L : Addr} {m : Str → Option Value} {s : Shared} {Q E : Value → Shared → Prop}
  {news : List (Addr × Obj)} {dd : Nat} {f : Addr} {vs : List Value} {x1 y1 c x2 y2 pr pn : Int}
theorem useRV (B : Below A₀ base outer h₀) (F : Fr h₀ L s.heap m) (X : (Mine.hd.heap_1 w.params).In h₀) (N : News h₀ L s.heap news) (T : Top Mine.view (looseW Mine.view [Str.ofString "Bpdu"]) mean mg mb h₀) (hk : cs.kind = .function)
  (C : Ctr w mean mg mb dd f vs news (RV x1 y1 c x2 y2 pr pn news)) (hd : dp + dd < recursionLimit) (hu : un + 8 * dd < cLine)
  (ret : ∀ (d d1 d2 d3 : Addr) (t1 t2 t3 t4 t5 t6 t7 : Tok) (x1' y1' c' x2' y2' pr' pn' : Int) (h' : Heap) (tk' : Nat), x1' = x1 → y1' = y1 → c' = c → x2' = x2 → y2' = y2 → pr' = pr → pn' = pn → Fr h₀ L h' m →
    News h₀ L h' ((d, tupOf [.ref d1, .int c' t3, .ref d2, .ref d3] 0) :: (d3, tupOf [.int pr' t6, .int pn' t7] 0) :: (d2, tupOf [.int x2' t4, .int y2' t5] 0) :: (d1, tupOf [.int x1' t1, .int y1' t2] 0) :: news) → Q (.ref d) { s with heap := h', toks := tk' }) :
  wpAny (model (PySem.Challenge.rw_xm0978_01.prog) w) (ktrTop dp un gd cn cs L a ccd cl outer) (call (.ref f) vs) Q E s := by
  refine Ctr.use C B F X N T hk hd hu ?_
  rintro _ _ h' tk' ⟨d, d1, d2, d3, t1, t2, t3, t4, t5, t6, t7, rfl, rfl⟩ F' N'
  exact ret d d1 d2 d3 t1 t2 t3 t4 t5 t6 t7 _ _ _ _ _ _ _ h' tk' rfl rfl rfl rfl rfl rfl rfl F' N'
end
-- Oct
theorem lines36 : True := by
  w_top off
  trivial
section
variable {prog : Program} {w : World} {A : Around} {E : Value → Shared → Prop} {s : Shared}
theorem pow_eq {a n : Int} {t u : Tok} {Q : Value → Shared → Prop} (k : Nat) (P : Int) (hn : n = (k : Int)) (hP : a ^ k = P) (hk : k ≤ 1000000) (ha : a.natAbs < 2 ^ 64) (h : Q (.int P s.toks) { s with toks := s.toks + 1 }) :
   wpAny (model prog w) A (binaryOp .Pow (.int a t) (.int n u)) Q E s := by
  subst hn
  refine pow_int_small (by omega) (by omega) ha ?_
  rw [Int.toNat_natCast, hP]
  exact h
theorem div_e {a b : Int} {t u : Tok} {Q : Value → Shared → Prop} (hb : 0 < b) (hl : b.natAbs.log2 < 9000) (h : ∀ r : Int, r = a / b → Q (.int r s.toks) { s with toks := s.toks + 1 }) :
   wpAny (model prog w) A (binaryOp .FloorDiv (.int a t) (.int b u)) Q E s :=
  floordiv_int (by omega) (h _ (Int.fdiv_eq_ediv_of_nonneg _ (by omega))) (Or.inl (PyProof.noPylong_of_log2 hl))
end
theorem lines37 : True := by
  (k_with "binaryOp Pow int int" => (k_here; (with_reducible show wpAny _ _ (binaryOp Operator.Pow (Value.int 256 _) (Value.int _ _)) _ _ _); (first
  | (refine' pow_eq 0 1 ?z61n ?z61p ?z61k ?z61a ?_; (case z61n => k_extra "m_eqn"); (case z61p => k_extra "m_pw"); (case z61k => decide); (case z61a => decide))
  | (refine' pow_eq 1 256 ?z61n ?z61p ?z61k ?z61a ?_; (case z61n => k_extra "m_eqn"); (case z61p => k_extra "m_pw"); (case z61k => decide); (case z61a => decide))
  | (refine' pow_eq 2 65536 ?z61n ?z61p ?z61k ?z61a ?_; (case z61n => k_extra "m_eqn"); (case z61p => k_extra "m_pw"); (case z61k => decide); (case z61a => decide))
  | (refine' pow_eq 3 16777216 ?z61n ?z61p ?z61k ?z61a ?_; (case z61n => k_extra "m_eqn"); (case z61p => k_extra "m_pw"); (case z61k => decide); (case z61a => decide))
  | (refine' pow_eq 4 4294967296 ?z61n ?z61p ?z61k ?z61a ?_; (case z61n => k_extra "m_eqn"); (case z61p => k_extra "m_pw"); (case z61k => decide); (case z61a => decide))
  | (refine' pow_eq 5 1099511627776 ?z61n ?z61p ?z61k ?z61a ?_; (case z61n => k_extra "m_eqn"); (case z61p => k_extra "m_pw"); (case z61k => decide); (case z61a => decide)))))
  (k_with "binaryOp FloorDiv int int" => (k_here; (refine' div_e ?z62k1 ?z62k2 ?_; (case z62k1 => decide); (case z62k2 => decide +kernel)); intro r' e'))
  trivial
abbrev RO2 (x : Int) (news : List (Addr × Obj)) : Value → List (Addr × Obj) → Prop := fun v news' => ∃ (d : Addr) (c : Nat) (k0 k1 : Int) (t0 t1 : Tok), v = .ref d ∧ (k0 = x / 256 % 256 ∧ k1 = x % 256) ∧ news' = (d, listOf [.int k0 t0, .int k1 t1].toArray c) :: news
theorem ro2_mk {x : Int} {news : List (Addr × Obj)} {d : Addr} {c : Nat} {k0 k1 : Int} {t0 t1 : Tok} (e0 : k0 = x / 256 % 256) (e1 : k1 = x % 256) : RO2 x news (.ref d) ((d, listOf [.int k0 t0, .int k1 t1].toArray c) :: news) :=
  ⟨d, c, k0, k1, t0, t1, rfl, ⟨e0, e1⟩, rfl⟩
set_option maxHeartbeats 4000000 in
theorem oc2_c (w : World) (mean : ExcName → Option Value) (mg mb : Str → Option Value) (x : Int) (t u : Tok) (news : List (Addr × Obj)) :
   Ctr w mean mg mb 1 222 [.int x t, .int 2 u] news (RO2 x news) := by
  k_extra "m_fill"
  unfold Ctr
  intro dp un gd cn cs a ccd cl outer A₀ base h₀ L m s Q E B F X N T hk hdp hun hret
  refine wpAny_call ?_
  k_dflt k_extra "m_enterC"
  k_steps
  all_goals (refine' hret _ _ _ _ (ro2_mk ?e0 ?e1) ?F ?N; (case F => assumption); (case N => exact cb_drop (by assumption) (by k_extra "m_sub")); (case e0 => omega); (case e1 => omega))
section
variable {w : World} {mean : ExcName → Option Value} {mg mb : Str → Option Value}
  {dp un : Nat} {gd : Option (List Code)} {cn : Str} {cs : Scope} {a : Addr} {ccd : Value} {cl : List (Str × Addr)} {outer : List Env} {A₀ : Around} {base h₀ : Heap} {L : Addr} {m : Str → Option Value} {s : Shared} {Q E : Value → Shared → Prop}
  {news : List (Addr × Obj)} {x : Int} {t u : Tok}
theorem oc2_use (B : Below A₀ base outer h₀) (F : Fr h₀ L s.heap m) (X : (Mine.hd.heap_1 w.params).In h₀) (N : News h₀ L s.heap news) (T : Top Mine.view (looseW Mine.view [Str.ofString "Bpdu"]) mean mg mb h₀) (hk : cs.kind = .function)
  (hd : dp + 1 < recursionLimit) (hu : un + 8 * 1 < cLine)
  (ret : ∀ (d : Addr) (c : Nat) (k0 k1 : Int) (t0 t1 : Tok) (h' : Heap) (tk' : Nat), k0 = x / 256 % 256 → 0 ≤ k0 → k0 < 256 → k1 = x % 256 → 0 ≤ k1 → k1 < 256 → Fr h₀ L h' m → News h₀ L h' ((d, listOf [.int k0 t0, .int k1 t1].toArray c) :: news) → Q (.ref d) { s with heap := h', toks := tk' }) :
  wpAny (model (PySem.Challenge.rw_xm0978_01.prog) w) (ktrTop dp un gd cn cs L a ccd cl outer) (call (.ref 222) [.int x t, .int 2 u]) Q E s := by
  refine Ctr.use (oc2_c _ _ _ _ x t u news) B F X N T hk hd hu ?_
  rintro _ _ h' tk' ⟨d, c, k0, k1, t0, t1, rfl, ⟨e0, e1⟩, rfl⟩ F' N'
  exact ret d c k0 k1 t0 t1 h' tk' e0 (by omega) (by omega) e1 (by omega) (by omega) F' N'
end
theorem lines38 : True := by
  (k_with "call ref" => (k_here; (with_reducible show wpAny _ _ (call (Value.ref 222) [Value.int _ _, Value.int 2 _]) _ _ _); k_dflt (refine' oc2_use ?z63k1 ?z63k2 ?z63k3 ?z63k4 ?z63k5 ?z63k6 ?z63k7 ?z63k8 ?_; ((case z63k1 => k_asm); (case z63k2 => k_asm); (case z63k3 => k_asm); (try (case z63k4 => k_asm)); (case z63k5 => k_asm); (case z63k6 => first | exact rfl | assumption); (case z63k7 => ktr_room); (case z63k8 => ktr_units))); intro d' c' k0' k1' t0' t1' h' tk' e0' u0' v0' e1' u1' v1' F' N'; (try dsimp only); (try k_sweep)))
  trivial
abbrev RO4 (x : Int) (news : List (Addr × Obj)) : Value → List (Addr × Obj) → Prop := fun v news' => ∃ (d : Addr) (c : Nat) (k0 k1 k2 k3 : Int) (t0 t1 t2 t3 : Tok), v = .ref d ∧ (k0 = x / 16777216 % 256 ∧ k1 = x / 65536 % 256 ∧ k2 = x / 256 % 256 ∧ k3 = x % 256) ∧ news' = (d, listOf [.int k0 t0, .int k1 t1, .int k2 t2, .int k3 t3].toArray c) :: news
theorem ro4_mk {x : Int} {news : List (Addr × Obj)} {d : Addr} {c : Nat} {k0 k1 k2 k3 : Int} {t0 t1 t2 t3 : Tok} (e0 : k0 = x / 16777216 % 256) (e1 : k1 = x / 65536 % 256) (e2 : k2 = x / 256 % 256) (e3 : k3 = x % 256) : RO4 x news (.ref d) ((d, listOf [.int k0 t0, .int k1 t1, .int k2 t2, .int k3 t3].toArray c) :: news) :=
  ⟨d, c, k0, k1, k2, k3, t0, t1, t2, t3, rfl, ⟨e0, e1, e2, e3⟩, rfl⟩
set_option maxHeartbeats 4000000 in
theorem oc4_c (w : World) (mean : ExcName → Option Value) (mg mb : Str → Option Value) (x : Int) (t u : Tok) (news : List (Addr × Obj)) :
   Ctr w mean mg mb 1 222 [.int x t, .int 4 u] news (RO4 x news) := by
  k_extra "m_fill"
  unfold Ctr
  intro dp un gd cn cs a ccd cl outer A₀ base h₀ L m s Q E B F X N T hk hdp hun hret
  refine wpAny_call ?_
  k_dflt k_extra "m_enterC"
  k_steps
  all_goals (refine' hret _ _ _ _ (ro4_mk ?e0 ?e1 ?e2 ?e3) ?F ?N; (case F => assumption); (case N => exact cb_drop (by assumption) (by k_extra "m_sub")); (case e0 => omega); (case e1 => omega); (case e2 => omega); (case e3 => omega))
section
variable {w : World} {mean : ExcName → Option Value} {mg mb : Str → Option Value}
  {dp un : Nat} {gd : Option (List Code)} {cn : Str} {cs : Scope} {a : Addr} {ccd : Value} {cl : List (Str × Addr)} {outer : List Env} {A₀ : Around} {base h₀ : Heap} {L : Addr} {m : Str → Option Value} {s : Shared} {Q E : Value → Shared → Prop}
  {news : List (Addr × Obj)} {x : Int} {t u : Tok}
theorem oc4_use (B : Below A₀ base outer h₀) (F : Fr h₀ L s.heap m) (X : (Mine.hd.heap_1 w.params).In h₀) (N : News h₀ L s.heap news) (T : Top Mine.view (looseW Mine.view [Str.ofString "Bpdu"]) mean mg mb h₀) (hk : cs.kind = .function)
  (hd : dp + 1 < recursionLimit) (hu : un + 8 * 1 < cLine)
  (ret : ∀ (d : Addr) (c : Nat) (k0 k1 k2 k3 : Int) (t0 t1 t2 t3 : Tok) (h' : Heap) (tk' : Nat), k0 = x / 16777216 % 256 → 0 ≤ k0 → k0 < 256 → k1 = x / 65536 % 256 → 0 ≤ k1 → k1 < 256 → k2 = x / 256 % 256 → 0 ≤ k2 → k2 < 256 → k3 = x % 256 → 0 ≤ k3 → k3 < 256 → Fr h₀ L h' m → News h₀ L h' ((d, listOf [.int k0 t0, .int k1 t1, .int k2 t2, .int k3 t3].toArray c) :: news) → Q (.ref d) { s with heap := h', toks := tk' }) :
  wpAny (model (PySem.Challenge.rw_xm0978_01.prog) w) (ktrTop dp un gd cn cs L a ccd cl outer) (call (.ref 222) [.int x t, .int 4 u]) Q E s := by
  refine Ctr.use (oc4_c _ _ _ _ x t u news) B F X N T hk hd hu ?_
  rintro _ _ h' tk' ⟨d, c, k0, k1, k2, k3, t0, t1, t2, t3, rfl, ⟨e0, e1, e2, e3⟩, rfl⟩ F' N'
  exact ret d c k0 k1 k2 k3 t0 t1 t2 t3 h' tk' e0 (by omega) (by omega) e1 (by omega) (by omega) e2 (by omega) (by omega) e3 (by omega) (by omega) F' N'
end
theorem lines39 : True := by
  (k_with "call ref" => (k_here; (with_reducible show wpAny _ _ (call (Value.ref 222) [Value.int _ _, Value.int 4 _]) _ _ _); k_dflt (refine' oc4_use ?z64k1 ?z64k2 ?z64k3 ?z64k4 ?z64k5 ?z64k6 ?z64k7 ?z64k8 ?_; ((case z64k1 => k_asm); (case z64k2 => k_asm); (case z64k3 => k_asm); (try (case z64k4 => k_asm)); (case z64k5 => k_asm); (case z64k6 => first | exact rfl | assumption); (case z64k7 => ktr_room); (case z64k8 => ktr_units))); intro d' c' k0' k1' k2' k3' t0' t1' t2' t3' h' tk' e0' u0' v0' e1' u1' v1' e2' u2' v2' e3' u3' v3' F' N'; (try dsimp only); (try k_sweep)))
  trivial
abbrev RO6 (x : Int) (news : List (Addr × Obj)) : Value → List (Addr × Obj) → Prop := fun v news' => ∃ (d : Addr) (c : Nat) (k0 k1 k2 k3 k4 k5 : Int) (t0 t1 t2 t3 t4 t5 : Tok), v = .ref d ∧ (k0 = x / 1099511627776 % 256 ∧ k1 = x / 4294967296 % 256 ∧ k2 = x / 16777216 % 256 ∧ k3 = x / 65536 % 256 ∧ k4 = x / 256 % 256 ∧ k5 = x % 256) ∧ news' = (d, listOf [.int k0 t0, .int k1 t1, .int k2 t2, .int k3 t3, .int k4 t4, .int k5 t5].toArray c) :: news
theorem ro6_mk {x : Int} {news : List (Addr × Obj)} {d : Addr} {c : Nat} {k0 k1 k2 k3 k4 k5 : Int} {t0 t1 t2 t3 t4 t5 : Tok} (e0 : k0 = x / 1099511627776 % 256) (e1 : k1 = x / 4294967296 % 256) (e2 : k2 = x / 16777216 % 256) (e3 : k3 = x / 65536 % 256) (e4 : k4 = x / 256 % 256) (e5 : k5 = x % 256) : RO6 x news (.ref d) ((d, listOf [.int k0 t0, .int k1 t1, .int k2 t2, .int k3 t3, .int k4 t4, .int k5 t5].toArray c) :: news) :=
  ⟨d, c, k0, k1, k2, k3, k4, k5, t0, t1, t2, t3, t4, t5, rfl, ⟨e0, e1, e2, e3, e4, e5⟩, rfl⟩
set_option maxHeartbeats 4000000 in
theorem oc6_c (w : World) (mean : ExcName → Option Value) (mg mb : Str → Option Value) (x : Int) (t u : Tok) (news : List (Addr × Obj)) :
   Ctr w mean mg mb 1 222 [.int x t, .int 6 u] news (RO6 x news) := by
  k_extra "m_fill"
  unfold Ctr
  intro dp un gd cn cs a ccd cl outer A₀ base h₀ L m s Q E B F X N T hk hdp hun hret
  refine wpAny_call ?_
  k_dflt k_extra "m_enterC"
  k_steps
  all_goals (refine' hret _ _ _ _ (ro6_mk ?e0 ?e1 ?e2 ?e3 ?e4 ?e5) ?F ?N; (case F => assumption); (case N => exact cb_drop (by assumption) (by k_extra "m_sub")); (case e0 => omega); (case e1 => omega); (case e2 => omega); (case e3 => omega); (case e4 => omega); (case e5 => omega))
section
variable {w : World} {mean : ExcName → Option Value} {mg mb : Str → Option Value}
  {dp un : Nat} {gd : Option (List Code)} {cn : Str} {cs : Scope} {a : Addr} {ccd : Value} {cl : List (Str × Addr)} {outer : List Env} {A₀ : Around} {base h₀ : Heap} {L : Addr} {m : Str → Option Value} {s : Shared} {Q E : Value → Shared → Prop}
  {news : List (Addr × Obj)} {x : Int} {t u : Tok}
theorem oc6_use (B : Below A₀ base outer h₀) (F : Fr h₀ L s.heap m) (X : (Mine.hd.heap_1 w.params).In h₀) (N : News h₀ L s.heap news) (T : Top Mine.view (looseW Mine.view [Str.ofString "Bpdu"]) mean mg mb h₀) (hk : cs.kind = .function)
  (hd : dp + 1 < recursionLimit) (hu : un + 8 * 1 < cLine)
  (ret : ∀ (d : Addr) (c : Nat) (k0 k1 k2 k3 k4 k5 : Int) (t0 t1 t2 t3 t4 t5 : Tok) (h' : Heap) (tk' : Nat), k0 = x / 1099511627776 % 256 → 0 ≤ k0 → k0 < 256 → k1 = x / 4294967296 % 256 → 0 ≤ k1 → k1 < 256 → k2 = x / 16777216 % 256 → 0 ≤ k2 → k2 < 256 → k3 = x / 65536 % 256 → 0 ≤ k3 → k3 < 256 → k4 = x / 256 % 256 → 0 ≤ k4 → k4 < 256 → k5 = x % 256 → 0 ≤ k5 → k5 < 256 → Fr h₀ L h' m → News h₀ L h' ((d, listOf [.int k0 t0, .int k1 t1, .int k2 t2, .int k3 t3, .int k4 t4, .int k5 t5].toArray c) :: news) → Q (.ref d) { s with heap := h', toks := tk' }) :
  wpAny (model (PySem.Challenge.rw_xm0978_01.prog) w) (ktrTop dp un gd cn cs L a ccd cl outer) (call (.ref 222) [.int x t, .int 6 u]) Q E s := by
  refine Ctr.use (oc6_c _ _ _ _ x t u news) B F X N T hk hd hu ?_
  rintro _ _ h' tk' ⟨d, c, k0, k1, k2, k3, k4, k5, t0, t1, t2, t3, t4, t5, rfl, ⟨e0, e1, e2, e3, e4, e5⟩, rfl⟩ F' N'
  exact ret d c k0 k1 k2 k3 k4 k5 t0 t1 t2 t3 t4 t5 h' tk' e0 (by omega) (by omega) e1 (by omega) (by omega) e2 (by omega) (by omega) e3 (by omega) (by omega) e4 (by omega) (by omega) e5 (by omega) (by omega) F' N'
end
theorem lines40 : True := by
  (k_with "call ref" => (k_here; (with_reducible show wpAny _ _ (call (Value.ref 222) [Value.int _ _, Value.int 6 _]) _ _ _); k_dflt (refine' oc6_use ?z65k1 ?z65k2 ?z65k3 ?z65k4 ?z65k5 ?z65k6 ?z65k7 ?z65k8 ?_; ((case z65k1 => k_asm); (case z65k2 => k_asm); (case z65k3 => k_asm); (try (case z65k4 => k_asm)); (case z65k5 => k_asm); (case z65k6 => first | exact rfl | assumption); (case z65k7 => ktr_room); (case z65k8 => ktr_units))); intro d' c' k0' k1' k2' k3' k4' k5' t0' t1' t2' t3' t4' t5' h' tk' e0' u0' v0' e1' u1' v1' e2' u2' v2' e3' u3' v3' e4' u4' v4' e5' u5' v5' F' N'; (try dsimp only); (try k_sweep)))
  trivial
-- Plain
theorem lines41 : True := by
  w_top off
  trivial
theorem top2 {x k : Int} (h0 : 0 ≤ x) (h1 : x ≤ 65535) (e : k = x / 256 % 256) : x / 256 = k := by omega
theorem top4 {x k : Int} (h0 : 0 ≤ x) (h1 : x ≤ 4294967295) (e : k = x / 16777216 % 256) : x / 16777216 = k := by omega
theorem top6 {x k : Int} (h0 : 0 ≤ x) (h1 : x ≤ 281474976710655) (e : k = x / 1099511627776 % 256) : x / 1099511627776 = k := by omega
theorem row_eq {x1 y1 c x2 y2 pr pn k0 k1 k2 k3 k4 k5 k6 k7 k8 k9 k10 k11 k12 k13 k14 k15 k16 k17 k18 k19 k20 k21 : Int} (h0 : 0 ≤ x1) (h1 : x1 ≤ 65535) (h2 : 0 ≤ y1) (h3 : y1 ≤ 281474976710655) (h4 : 0 ≤ c) (h5 : c ≤ 4294967295) (h6 : 0 ≤ x2) (h7 : x2 ≤ 65535) (h8 : 0 ≤ y2) (h9 : y2 ≤ 281474976710655)
   (e0 : k0 = x1 / 256 % 256) (e1 : k1 = x1 % 256) (e2 : k2 = y1 / 1099511627776 % 256) (e3 : k3 = y1 / 4294967296 % 256) (e4 : k4 = y1 / 16777216 % 256) (e5 : k5 = y1 / 65536 % 256) (e6 : k6 = y1 / 256 % 256) (e7 : k7 = y1 % 256) (e8 : k8 = c / 16777216 % 256) (e9 : k9 = c / 65536 % 256) (e10 : k10 = c / 256 % 256) (e11 : k11 = c % 256) (e12 : k12 = x2 / 256 % 256) (e13 : k13 = x2 % 256) (e14 : k14 = y2 / 1099511627776 % 256) (e15 : k15 = y2 / 4294967296 % 256) (e16 : k16 = y2 / 16777216 % 256) (e17 : k17 = y2 / 65536 % 256) (e18 : k18 = y2 / 256 % 256) (e19 : k19 = y2 % 256) (e20 : k20 = pn / 256) (e21 : k21 = pn % 256) : rowOf x1 y1 c x2 y2 pr pn = [k0, k1, k2, k3, k4, k5, k6, k7, k8, k9, k10, k11, k12, k13, k14, k15, k16, k17, k18, k19, pr + k20, k21] := by
  have a0 : x1 / 256 = k0 := top2 h0 h1 e0
  have a2 : y1 / 1099511627776 = k2 := top6 h2 h3 e2
  have a8 : c / 16777216 = k8 := top4 h4 h5 e8
  have a12 : x2 / 256 = k12 := top2 h6 h7 e12
  have a14 : y2 / 1099511627776 = k14 := top6 h8 h9 e14
  simp only [rowOf, octB, oct2, oct4, oct6, List.cons_append, List.nil_append, a0, a2, a8, a12, a14, ← e1, ← e3, ← e4, ← e5, ← e6, ← e7, ← e9, ← e10, ← e11, ← e13, ← e15, ← e16, ← e17, ← e18, ← e19, ← e20, ← e21]
theorem back2 {x k0 k1 : Int} (h0 : 0 ≤ x) (h1 : x ≤ 65535) (e0 : k0 = x / 256 % 256) (e1 : k1 = x % 256) : k0 * 256 + k1 = x := by omega
theorem back4 {x k0 k1 k2 k3 : Int} (h0 : 0 ≤ x) (h1 : x ≤ 4294967295) (e0 : k0 = x / 16777216 % 256) (e1 : k1 = x / 65536 % 256) (e2 : k2 = x / 256 % 256) (e3 : k3 = x % 256) : k0 * 16777216 + k1 * 65536 + k2 * 256 + k3 = x := by omega
theorem back6 {x k0 k1 k2 k3 k4 k5 : Int} (h0 : 0 ≤ x) (h1 : x ≤ 281474976710655) (e0 : k0 = x / 1099511627776 % 256) (e1 : k1 = x / 4294967296 % 256) (e2 : k2 = x / 16777216 % 256) (e3 : k3 = x / 65536 % 256) (e4 : k4 = x / 256 % 256) (e5 : k5 = x % 256) :
   k0 * 1099511627776 + k1 * 4294967296 + k2 * 16777216 + k3 * 65536 + k4 * 256 + k5 = x := by omega
theorem backP1 {pr q pn k0 : Int} (hq : pr = 16 * q) (e0 : k0 = pn / 256) (h0 : 0 ≤ q) (h1 : q < 16) (h2 : 0 ≤ pn) (h3 : pn ≤ 4095) : (pr + k0) / 16 * 16 = pr := by omega
theorem backP2 {pr q pn k0 k1 : Int} (hq : pr = 16 * q) (h2 : 0 ≤ pn) (h3 : pn ≤ 4095) (e0 : k0 = pn / 256) (e1 : k1 = pn % 256) : (pr + k0) % 16 * 256 + k1 = pn := by omega
section
variable {prog : Program} {w : World} {A : Around} {E : Value → Shared → Prop} {s : Shared} {h₀ : Heap} {L a b : Addr} {m : Str → Option Value} {news : List (Addr × Obj)}
theorem leq_true {xs ys : List Value} {ns ms : List Int} {n k : Nat} {Q : Value → Shared → Prop} (N : News h₀ L s.heap news) (ha : (a, listOf xs.toArray n) ∈ news) (hb : (b, listOf ys.toArray k) ∈ news) (hi : PyProof.Rows.IntsAre xs ns) (hj : PyProof.Rows.IntsAre ys ms) (hu : A.units + 64 < cLine)
   (e : ns = ms) (h : Q (.bool true) s) : wpAny (model prog w) A (compareOp .Eq (.ref a) (.ref b)) Q E s :=
  ke_eq_ints (PySem.IsL.isList (n := n) (N _ ha).1) (PySem.IsL.isList (n := k) (N _ hb).1) hi hj hu (by rw [decide_eq_true e]; exact h)
theorem lne_false {xs ys : List Value} {ns ms : List Int} {n k : Nat} {Q : Value → Shared → Prop} (N : News h₀ L s.heap news) (ha : (a, listOf xs.toArray n) ∈ news) (hb : (b, listOf ys.toArray k) ∈ news) (hi : PyProof.Rows.IntsAre xs ns) (hj : PyProof.Rows.IntsAre ys ms) (hu : A.units + 64 < cLine)
   (e : ns = ms) (h : Q (.bool false) s) : wpAny (model prog w) A (compareOp .NotEq (.ref a) (.ref b)) Q E s :=
  ke_ne_ints (PySem.IsL.isList (n := n) (N _ ha).1) (PySem.IsL.isList (n := k) (N _ hb).1) hi hj hu (by rw [decide_eq_true e]; exact h)
theorem reads_pair {d : Addr} {x y : Int} {tx ty : Tok} {n : Nat} (N : News h₀ L s.heap news) (hm : (d, tupOf [.int x tx, .int y ty] n) ∈ news) : ∃ as, Reads s.heap (.ref d) (.tuple [.int x, .int y]) as :=
  ⟨_, reads_tuple_at (News.get N hm) rfl rfl (.cons (.int _ _) (.cons (.int _ _) .nil))⟩
theorem reads_vec {d d1 d2 d3 : Addr} {x1 y1 c x2 y2 pr pn : Int} {t1 t2 t3 t4 t5 t6 t7 : Tok} {n0 n1 n2 n3 : Nat} (N : News h₀ L s.heap news) (h0 : (d, tupOf [.ref d1, .int c t3, .ref d2, .ref d3] n0) ∈ news) (h1 : (d1, tupOf [.int x1 t1, .int y1 t2] n1) ∈ news)
    (h2 : (d2, tupOf [.int x2 t4, .int y2 t5] n2) ∈ news) (h3 : (d3, tupOf [.int pr t6, .int pn t7] n3) ∈ news) :
    ∃ as, Reads s.heap (.ref d) (.tuple [.tuple [.int x1, .int y1], .int c, .tuple [.int x2, .int y2], .tuple [.int pr, .int pn]]) as := by
  obtain ⟨_, r1⟩ := reads_pair N h1
  obtain ⟨_, r2⟩ := reads_pair N h2
  obtain ⟨_, r3⟩ := reads_pair N h3
  exact ⟨_, reads_tuple_at (News.get N h0) rfl rfl (.cons r1 (.cons (.int _ _) (.cons r2 (.cons r3 .nil))))⟩
theorem vec_eq {d1 d2 d3 e1 e2 e3 : Addr} {x1 y1 c x2 y2 pr pn x1' y1' c' x2' y2' pr' pn' : Int} {t1 t2 t3 t4 t5 t6 t7 u1 u2 u3 u4 u5 u6 u7 : Tok} {n0 n1 n2 n3 k0 k1 k2 k3 : Nat} {Q : Value → Shared → Prop} (N : News h₀ L s.heap news)
    (h0 : (a, tupOf [.ref d1, .int c' t3, .ref d2, .ref d3] n0) ∈ news) (h1 : (d1, tupOf [.int x1' t1, .int y1' t2] n1) ∈ news) (h2 : (d2, tupOf [.int x2' t4, .int y2' t5] n2) ∈ news) (h3 : (d3, tupOf [.int pr' t6, .int pn' t7] n3) ∈ news)
    (g0 : (b, tupOf [.ref e1, .int c u3, .ref e2, .ref e3] k0) ∈ news) (g1 : (e1, tupOf [.int x1 u1, .int y1 u2] k1) ∈ news) (g2 : (e2, tupOf [.int x2 u4, .int y2 u5] k2) ∈ news) (g3 : (e3, tupOf [.int pr u6, .int pn u7] k3) ∈ news)
    (hu : A.units + 64 < cLine) (q1 : x1' = x1) (q2 : y1' = y1) (q3 : c' = c) (q4 : x2' = x2) (q5 : y2' = y2) (q6 : pr' = pr) (q7 : pn' = pn) (h : Q (.bool true) s) : wpAny (model prog w) A (compareOp .Eq (.ref a) (.ref b)) Q E s := by
  subst q1 q2 q3 q4 q5 q6 q7
  obtain ⟨_, r1⟩ := reads_vec N h0 h1 h2 h3
  obtain ⟨_, r2⟩ := reads_vec N g0 g1 g2 g3
  refine eq_dataH r1 r2 (by simp [SeqAt.shaped, PyData.canLay0, PyData.canLayAll0, PyData.depth, PyData.depthAll]) (by simp [SeqAt.shaped, PyData.canLay0, PyData.canLayAll0, PyData.depth, PyData.depthAll]) hu ?_
  simpa [PyData.eqv, PyData.eqvAll] using h
end
-- VecR
theorem lines42 : True := by
  w_top off
  (k_with "call ref" => (k_here; (with_reducible show wpAny _ _ (call (Value.ref 156) [Value.ref _]) _ _ _); k_dflt (refine' useB ?z66k1 ?z66k2 ?z66k3 ?z66k4 ?z66k5 ?z66k6 (vecO_c _ _ _ _ _ _ _ _ _ _ _ _ _ _ _ _ _ _ _ _ _ _ _ _ _ _ _ _ ?z66v ?z66m1 ?z66m2 ?z66m3 ?z66x0 ?z66x1 ?z66x2 ?z66x3 ?z66x4 ?z66x5 ?z66x6 ?z66x7 ?z66x8 ?z66x9 ?z66q ?z66y0 ?z66y1 ?z66y2 ?z66y3) ?z66k7 ?z66k8 ?_; (case z66k4 => k_asm); (case z66v => k_mem); (case z66m1 => k_mem); (case z66m2 => k_mem); (case z66m3 => k_mem); (case z66q => assumption); (case z66x0 => k_extra "m_num"); (case z66x1 => k_extra "m_num"); (case z66x2 => k_extra "m_num"); (case z66x3 => k_extra "m_num"); (case z66x4 => k_extra "m_num"); (case z66x5 => k_extra "m_num"); (case z66x6 => k_extra "m_num"); (case z66x7 => k_extra "m_num"); (case z66x8 => k_extra "m_num"); (case z66x9 => k_extra "m_num"); (case z66y0 => k_extra "m_num"); (case z66y1 => k_extra "m_num"); (case z66y2 => k_extra "m_num"); (case z66y3 => k_extra "m_num"); ((case z66k1 => k_asm); (case z66k2 => k_asm); (case z66k3 => k_asm); (try (case z66k4 => k_asm)); (case z66k5 => k_asm); (case z66k6 => first | exact rfl | assumption); (case z66k7 => ktr_room); (case z66k8 => ktr_units))); intro b' t' h' tk' hb' F' N'; (try dsimp only); (try k_sweep)))
  (k_with "call ref" => (k_here; (with_reducible show wpAny _ _ (call (Value.ref 191) [Value.bytes _ _]) _ _ _); k_dflt (refine' useRV ?z67k1 ?z67k2 ?z67k3 ?z67k4 ?z67k5 ?z67k6 (rdV_c _ _ _ _ _ _ _ _ _ _ _ _ _ _ _ _ _ _ _ _ _ _ _ _ _ _ _ _ _ ?z67hb ?z67x0 ?z67x1 ?z67x2 ?z67x3) ?z67k7 ?z67k8 ?_; (case z67hb => k_extra "m_ints_of"); (case z67x0 => k_extra "m_num"); (case z67x1 => k_extra "m_num"); (case z67x2 => k_extra "m_num"); (case z67x3 => k_extra "m_num"); ((case z67k1 => k_asm); (case z67k2 => k_asm); (case z67k3 => k_asm); (try (case z67k4 => k_asm)); (case z67k5 => k_asm); (case z67k6 => first | exact rfl | assumption); (case z67k7 => ktr_room); (case z67k8 => ktr_units))); intro d0' d1' d2' d3' t1' t2' t3' t4' t5' t6' t7' x1' y1' c' x2' y2' pr' pn' h' tk' e1' e2' e3' e4' e5' e6' e7' F' N'; (try dsimp only); (try k_sweep)))
  (k_with "compareOp Eq ref ref" => (k_here; (with_reducible show wpAny _ _ (compareOp CmpOp.Eq (Value.ref _) (Value.ref _)) _ _ _); k_dflt (refine' leq_true ?z68N ?z68a ?z68b ?z68i ?z68j ?z68u ?z68e ?_; (case z68N => k_asm); (case z68a => k_mem); (case z68b => k_mem); (case z68i => assumption); (case z68j => k_extra "m_ia"); (case z68u => ktr_units); (case z68e => exact row_eq (by assumption) (by assumption) (by assumption) (by assumption) (by assumption) (by assumption) (by assumption) (by assumption) (by assumption) (by assumption) (by assumption) (by assumption) (by assumption) (by assumption) (by assumption) (by assumption) (by assumption) (by assumption) (by assumption) (by assumption) (by assumption) (by assumption) (by assumption) (by assumption) (by assumption) (by assumption) (by assumption) (by assumption) (by assumption) (by assumption) (by assumption) (by assumption)))))
  trivial
theorem vtrue {x1 y1 c x2 y2 pr pn x1' y1' c' x2' y2' pr' pn' : Int} (q1 : x1' = x1) (q2 : y1' = y1) (q3 : c' = c) (q4 : x2' = x2) (q5 : y2' = y2) (q6 : pr' = pr) (q7 : pn' = pn) :
   (x1' == x1 && y1' == y1 && (c' == c && (x2' == x2 && y2' == y2 && (pr' == pr && pn' == pn)))) = true := by
  subst q1 q2 q3 q4 q5 q6 q7
  simp
set_option maxHeartbeats 700000 in
theorem vecR_c (w : World) (mean : ExcName → Option Value) (mg mb : Str → Option Value) (tv b1 b2 pp : Addr) (x1 y1 c x2 y2 pr pn q : Int) (t1 t2 t3 t4 t5 t6 t7 : Tok) (n0 n1 n2 n3 : Nat) (news : List (Addr × Obj))
   (hv : (tv, tupOf [.ref b1, .int c t3, .ref b2, .ref pp] n0) ∈ news) (hm1 : (b1, tupOf [.int x1 t1, .int y1 t2] n1) ∈ news) (hm2 : (b2, tupOf [.int x2 t4, .int y2 t5] n2) ∈ news) (hm3 : (pp, tupOf [.int pr t6, .int pn t7] n3) ∈ news)
   (h0 : 0 ≤ x1) (h1 : x1 ≤ 65535) (h2 : 0 ≤ y1) (h3 : y1 ≤ 281474976710655) (h4 : 0 ≤ c) (h5 : c ≤ 4294967295) (h6 : 0 ≤ x2) (h7 : x2 ≤ 65535) (h8 : 0 ≤ y2) (h9 : y2 ≤ 281474976710655)
   (hq : pr = 16 * q) (h10 : 0 ≤ q) (h11 : q < 16) (h12 : 0 ≤ pn) (h13 : pn ≤ 4095) :
   Ctr w mean mg mb 20 243 [.ref tv] news (fun v news' => v = .bool true ∧ news' = news) := by
  k_extra "m_fill"
  unfold Ctr
  intro dp un gd cn cs a ccd cl outer A₀ base h₀ L m s Q E B F X N T hk hdp hun hret
  refine wpAny_call ?_
  k_dflt cell_enter
  k_steps
  all_goals (refine hret _ _ _ _ ⟨congrArg Value.bool (vtrue ?q1 ?q2 ?q3 ?q4 ?q5 ?q6 ?q7), rfl⟩ (by assumption) (cb_drop (by assumption) (by k_extra "m_sub")))
  · exact Eq.trans (by assumption) (back2 (by assumption) (by assumption) (by assumption) (by assumption))
  · exact Eq.trans (by assumption) (back6 (by assumption) (by assumption) (by assumption) (by assumption) (by assumption) (by assumption) (by assumption) (by assumption))
  · exact Eq.trans (by assumption) (back4 (by assumption) (by assumption) (by assumption) (by assumption) (by assumption) (by assumption))
  · exact Eq.trans (by assumption) (back2 (by assumption) (by assumption) (by assumption) (by assumption))
  · exact Eq.trans (by assumption) (back6 (by assumption) (by assumption) (by assumption) (by assumption) (by assumption) (by assumption) (by assumption) (by assumption))
  · exact Eq.trans (by assumption) (backP1 (by assumption) (by assumption) (by assumption) (by assumption) (by assumption) (by assumption))
  · exact Eq.trans (by assumption) (backP2 (by assumption) (by assumption) (by assumption) (by assumption) (by assumption))
-- RdT
local macro_rules | `(tactic| k_room) => `(tactic| ktr_room)
theorem lines43 : True := by
  w_top off
  trivial
abbrev timD (P : Params) (a m h d : Int) (u0 u1 u2 u3 t0 t1 t2 t3 : Tok) : Obj := dictOf [
  { hash := PyData.keyHash P (Str.ofString "age"), key := Value.str (Str.ofString "age") u0, val := Value.int a t0 },
  { hash := PyData.keyHash P (Str.ofString "max_age"), key := Value.str (Str.ofString "max_age") u1, val := Value.int m t1 },
  { hash := PyData.keyHash P (Str.ofString "hello"), key := Value.str (Str.ofString "hello") u2, val := Value.int h t2 },
  { hash := PyData.keyHash P (Str.ofString "delay"), key := Value.str (Str.ofString "delay") u3, val := Value.int d t3 }] 4
/-- new Times -/
abbrev RTm (P : Params) (a m h d : Int) (news : List (Addr × Obj)) : Value → List (Addr × Obj) → Prop := fun v news' => ∃ (x dx : Addr) (a' m' h' d' : Int) (u0 u1 u2 u3 t0 t1 t2 t3 : Tok), v = .ref x ∧ (a' = a ∧ m' = m ∧ h' = h ∧ d' = d) ∧ @LT.lt Nat _ dx x ∧ AllLt dx news ∧
  news' = (x, instObj 83 dx) :: (dx, timD P a' m' h' d' u0 u1 u2 u3 t0 t1 t2 t3) :: news
theorem rtm_mk {P : Params} {a m h d a' m' h' d' : Int} {x dx : Addr} {news : List (Addr × Obj)} {u0 u1 u2 u3 t0 t1 t2 t3 : Tok} (e0 : a' = a) (e1 : m' = m) (e2 : h' = h) (e3 : d' = d) (l1 : @LT.lt Nat _ dx x) (l2 : AllLt dx news) :
   RTm P a m h d news (.ref x) ((x, instObj 83 dx) :: (dx, timD P a' m' h' d' u0 u1 u2 u3 t0 t1 t2 t3) :: news) := ⟨x, dx, a', m', h', d', u0, u1, u2, u3, t0, t1, t2, t3, rfl, ⟨e0, e1, e2, e3⟩, l1, l2, rfl⟩
theorem swap_lc {es : List PySem.Expr} {k : Nat} {tp pos : Pos} {elt : PySem.Expr} {gens : List Comprehension} {scope : Scope} {line : Nat} {env : Env} : swapsWithSole [.Tuple es k tp] (.ListComp elt gens scope pos) line env = pure false := rfl
theorem swst_lc {es : List PySem.Expr} {k : Nat} {tp pos : Pos} {elt : PySem.Expr} {gens : List Comprehension} {scope : Scope} {env : Env} : swappedStores [.Tuple es k tp] (.ListComp elt gens scope pos) env = pure none := rfl
theorem asg_lc {M : Model} {A : Around} {E : Value → Shared → Prop} {s : Shared} {es : List PySem.Expr} {k : Nat} {tp pos pos' : Pos} {elt : PySem.Expr} {gens : List Comprehension} {scope : Scope} {env : Env} {Q : Flow → Shared → Prop}
    (h : wpAny M A (eval (.ListComp elt gens scope pos) env) (fun v s₁ => wpAny M A (assign (.Tuple es k tp) env v) (fun _ => Q .next) E s₁) E s) : wpAny M A (exec (.Assign [.Tuple es k tp] (.ListComp elt gens scope pos) pos') env) Q E s :=
  Assign_Tuple h swap_lc swst_lc
theorem lines44 : True := by
  (k_with "exec Assign cons ListComp" => ((with_reducible show wpAny _ _ (exec (Stmt.Assign [Expr.Tuple _ _ _] (Expr.ListComp _ _ _ _) _) _) _ _ _); refine asg_lc ?_))
  trivial
set_option maxHeartbeats 1000000 in
theorem rdT_c (w : World) (mean : ExcName → Option Value) (mg mb : Str → Option Value) (b : Array UInt8) (t : Tok) (k0 k1 k2 k3 k4 k5 k6 k7 : Int) (news : List (Addr × Obj))
   (hb : KBw.bInts b = [k0, k1, k2, k3, k4, k5, k6, k7]) (h1 : 0 ≤ k1) (h1' : k1 < 256) (h3 : 0 ≤ k3) (h3' : k3 < 256) (h5 : 0 ≤ k5) (h5' : k5 < 256) (h7 : 0 ≤ k7) (h7' : k7 < 256) :
   Ctr w mean mg mb 4 196 [.bytes b t] news (RTm w.params k0 k2 k4 k6 news) := by
  k_extra "m_fill"
  unfold Ctr
  intro dp un gd cn cs a ccd cl outer A₀ base h₀ L m s Q E B F X N T hk hdp hun hret
  refine wpAny_call ?_
  k_dflt k_extra "m_enterC"
  k_steps
  all_goals (refine' hret _ _ _ _ (rtm_mk ?e0 ?e1 ?e2 ?e3 ?l1 ?l2) ?F ?N; (case F => assumption); (case N => exact cb_drop (by assumption) (by k_extra "m_sub")); (case e0 => omega); (case e1 => omega); (case e2 => omega); (case e3 => omega); (case l1 => assumption); (case l2 => k_extra "m_lt"))
section
variable {w : World} {mean : ExcName → Option Value} {mg mb : Str → Option Value}
  {dp un : Nat} {gd : Option (List Code)} {cn : Str} {cs : Scope} {a : Addr} {ccd : Value} {cl : List (Str × Addr)} {outer : List Env} {A₀ : Around} {base h₀ : Heap} {L : Addr} {m : Str → Option Value} {s : Shared} {Q E : Value → Shared → Prop}
  {news : List (Addr × Obj)} {b : Array UInt8} {t : Tok} {k0 k1 k2 k3 k4 k5 k6 k7 : Int}
theorem rdT_use (B : Below A₀ base outer h₀) (F : Fr h₀ L s.heap m) (X : (Mine.hd.heap_1 w.params).In h₀) (N : News h₀ L s.heap news) (T : Top Mine.view (looseW Mine.view [Str.ofString "Bpdu"]) mean mg mb h₀) (hk : cs.kind = .function)
  (hb : KBw.bInts b = [k0, k1, k2, k3, k4, k5, k6, k7]) (h1 : 0 ≤ k1) (h1' : k1 < 256) (h3 : 0 ≤ k3) (h3' : k3 < 256) (h5 : 0 ≤ k5) (h5' : k5 < 256) (h7 : 0 ≤ k7) (h7' : k7 < 256)
  (hd : dp + 4 < recursionLimit) (hu : un + 8 * 4 < cLine)
  (ret : ∀ (x dx : Addr) (a' m' h' d' : Int) (u0 u1 u2 u3 t0 t1 t2 t3 : Tok) (hp : Heap) (tk' : Nat), a' = k0 → m' = k2 → h' = k4 → d' = k6 → @LT.lt Nat _ dx x → AllLt dx news → Fr h₀ L hp m → News h₀ L hp ((x, instObj 83 dx) :: (dx, timD w.params a' m' h' d' u0 u1 u2 u3 t0 t1 t2 t3) :: news) → Q (.ref x) { s with heap := hp, toks := tk' }) :
  wpAny (model (PySem.Challenge.rw_xm0978_01.prog) w) (ktrTop dp un gd cn cs L a ccd cl outer) (call (.ref 196) [.bytes b t]) Q E s := by
  refine Ctr.use (rdT_c _ _ _ _ b t k0 k1 k2 k3 k4 k5 k6 k7 news hb h1 h1' h3 h3' h5 h5' h7 h7') B F X N T hk hd hu ?_
  rintro _ _ hp tk' ⟨x, dx, a', m', h', d', u0, u1, u2, u3, t0, t1, t2, t3, rfl, ⟨e0, e1, e2, e3⟩, l1, l2, rfl⟩ F' N'
  exact ret x dx a' m' h' d' u0 u1 u2 u3 t0 t1 t2 t3 hp tk' e0 e1 e2 e3 l1 l2 F' N'
end
theorem lines45 : True := by
  (k_with "call ref" => (k_here; (with_reducible show wpAny _ _ (call (Value.ref 196) [Value.bytes _ _]) _ _ _); k_dflt (refine' rdT_use ?z70k1 ?z70k2 ?z70k3 ?z70k4 ?z70k5 ?z70k6 ?z70hb ?z70x0 ?z70x1 ?z70x2 ?z70x3 ?z70x4 ?z70x5 ?z70x6 ?z70x7 ?z70k7 ?z70k8 ?_; (case z70k4 => k_asm); (case z70hb => k_extra "m_ints_of"); (case z70x0 => k_extra "m_num"); (case z70x1 => k_extra "m_num"); (case z70x2 => k_extra "m_num"); (case z70x3 => k_extra "m_num"); (case z70x4 => k_extra "m_num"); (case z70x5 => k_extra "m_num"); (case z70x6 => k_extra "m_num"); (case z70x7 => k_extra "m_num"); ((case z70k1 => k_asm); (case z70k2 => k_asm); (case z70k3 => k_asm); (try (case z70k4 => k_asm)); (case z70k5 => k_asm); (case z70k6 => first | exact rfl | assumption); (case z70k7 => ktr_room); (case z70k8 => ktr_units))); intro x' dx' a' m' h' d' u0' u1' u2' u3' t0' t1' t2' t3' hp' tk' e0' e1' e2' e3' l1 l2 F' N'; (try simp only [AllLt, and_true] at l2); (try dsimp only); (try k_sweep)))
  trivial
-- Tup
theorem lines46 : True := by
  w_top off
  trivial
section
variable {prog : Program} {w : World} {A : Around} {E : Value → Shared → Prop} {s : Shared} {env : Env} {h₀ : Heap} {x : Str} {body : List Stmt} {Q : Flow → Shared → Prop}
noncomputable def TupRest (prog : Program) (w : World) (A : Around) (E : Value → Shared → Prop) (h₀ : Heap) (env : Env) (x : Str) (body : List Stmt) (Q : Flow → Shared → Prop) (s : Shared) (I : Addr) (lp : Addr × Obj) : List Value → (Str → Option Value) → List (Addr × Obj) → Prop
  | [], m, news => ∀ h tk, Fr h₀ env.locals h m → News h₀ env.locals h news → Q .next { s with heap := h, toks := tk }
  | v :: r, m, news => ∀ (it : Obj) h tk, Fr h₀ env.locals h (fun y => if y = x then some v else m y) → News h₀ env.locals h ((I, it) :: news) →
      wpAny (model prog w) A (execs body env) (UnrPost h₀ env.locals { s with heap := h, toks := tk } I it (fun m' n' => lp ∈ n' ∧ TupRest prog w A E h₀ env x body Q s I lp r m' n') Q) E { s with heap := h, toks := tk }
theorem TupRest.zero {I : Addr} {lp : Addr × Obj} {m : Str → Option Value} {news : List (Addr × Obj)} (h : ∀ h tk, Fr h₀ env.locals h m → News h₀ env.locals h news → Q .next { s with heap := h, toks := tk }) :
    TupRest prog w A E h₀ env x body Q s I lp [] m news := h
theorem TupRest.succ {I : Addr} {lp : Addr × Obj} {v : Value} {r : List Value} {m : Str → Option Value} {news : List (Addr × Obj)}
    (h : ∀ (it : Obj) h tk, Fr h₀ env.locals h (fun y => if y = x then some v else m y) → News h₀ env.locals h ((I, it) :: news) →
      wpAny (model prog w) A (execs body env) (UnrPost h₀ env.locals { s with heap := h, toks := tk } I it (fun m' n' => lp ∈ n' ∧ TupRest prog w A E h₀ env x body Q s I lp r m' n') Q) E { s with heap := h, toks := tk }) :
    TupRest prog w A E h₀ env x body Q s I lp (v :: r) m news := h
theorem iter_tup {ax : Addr} {vs : List Value} {n : Nat} {m₀ : Str → Option Value} {news : List (Addr × Obj)}
    (hh : A.handled = none) (F : Fr h₀ env.locals s.heap m₀) (N : News h₀ env.locals s.heap news) (hm : (ax, tupOf vs n) ∈ news)
    (rest₀ : ∀ I : Addr, (∀ p ∈ news, p.1 < I) → TupRest prog w A E h₀ env x body Q s I (ax, tupOf vs n) vs m₀ news) :
    wpAny (model prog w) A (pyIter (.ref ax)) (fun it s₂ => LoopAtV prog w A h₀ env x body Q E it s₂) E s := by
  have hax := N _ hm
  have hl : s.heap.IsTuple ax vs.toArray := ⟨_, hax.1, rfl, n, rfl⟩
  have hne : ax ≠ s.heap.objs.size := Nat.ne_of_lt (Heap.lt_size hax.1)
  have hnew := next_is_new F
  have rest := rest₀ s.heap.objs.size fun p hp => Heap.lt_size (N p hp).1
  refine wpAny_pyIter_tuple hl ?_
  have W := Walks.tuple (prog := prog) (w := w) hh s.heap.objs.size ax hne vs.toArray
  let J : Nat → (Str → Option Value) → List (Addr × Obj) → Prop := fun i m₁ news₁ => (ax, tupOf vs n) ∈ news₁ ∧ TupRest prog w A E h₀ env x body Q s s.heap.objs.size (ax, tupOf vs n) (vs.drop i) m₁ news₁
  refine ⟨_, _, _, vs.toArray.size, _, _, m₀, news, J, rfl, W, ?_, ?_, ?_, ⟨⟨_, Heap.get?_push_size _ rfl, rfl, rfl⟩, hl.push _⟩, F.push _, (fun p hp => ⟨Heap.get?_push_of_some _ (N p hp).1, (N p hp).2⟩), ⟨hm, by rw [List.drop_zero]; exact rest⟩, ?_, ?_⟩
  · intro hmm
    rcases List.mem_cons.mp hmm with e | hmm
    · exact absurd F.ns.lt (e ▸ Nat.lt_irrefl _)
    · exact hax.2.1 (List.mem_singleton.mp hmm).symm
  · intro b hb
    rw [List.mem_singleton.mp hb]
    exact hnew
  · intro p hp hI
    exact absurd (Heap.lt_size (N p hp).1) ((List.mem_singleton.mp hI) ▸ Nat.lt_irrefl _)
  · rintro i v m₁ news₁ s₁ own ⟨hh', tk', rfl⟩ hin hP ⟨hmem₁, hJ⟩ hoff hown hget hall hst F₁ N₁
    obtain ⟨it, hit, _, _⟩ := hst.1
    have hmemI := hall s.heap.objs.size (List.mem_cons_self ..) hnew _ hit
    have hlt' : i < vs.length := by simpa using hin
    have hdrop : vs.drop i = v :: vs.drop (i + 1) := by
      have hv : vs[i]? = some v := by simpa using hP
      rw [List.drop_eq_getElem_cons hlt']
      congr 1
      exact Option.some.inj ((List.getElem?_eq_getElem hlt').symm.trans hv)
    rw [hdrop] at hJ
    have N₂ : News h₀ env.locals hh' ((s.heap.objs.size, it) :: news₁) := fun p hp => by
      rcases List.mem_cons.mp hp with rfl | hp
      · exact N₁ _ (List.mem_append_left _ hmemI)
      · exact N₁ _ (List.mem_append_right _ hp)
    have fin : ∀ s₂, UnrEnd h₀ env.locals { s with heap := hh', toks := tk' } s.heap.objs.size it (fun m' n' => (ax, tupOf vs n) ∈ n' ∧ TupRest prog w A E h₀ env x body Q s s.heap.objs.size (ax, tupOf vs n) (vs.drop (i + 1)) m' n') s₂ →
        LoopStepU h₀ env.locals [s.heap.objs.size] own (J (i + 1)) { s with heap := hh', toks := tk' } .next s₂ := by
      rintro s₂ ⟨h', tk, m', news', e, F', N', ho, hmm, r⟩
      refine ⟨rfl, h', tk, m', news', e, F', fun p hp => ?_, fun p hp hI => ho p hp (List.mem_singleton.mp hI), hmm, r⟩
      rcases List.mem_append.mp hp with hp | hp
      · have h2 : hh'.get? p.1 = some p.2 := hget p hp
        rcases List.mem_cons.mp (hown p hp) with h1 | h1
        · have h3 : p = (s.heap.objs.size, it) := by
            rw [h1, hit] at h2
            exact Prod.ext h1 (Option.some.inj h2).symm
          rw [h3]; exact N' _ (List.mem_cons_self ..)
        · have h1' : p.1 = ax := List.mem_singleton.mp h1
          have h3 : p = (ax, tupOf vs n) := by
            rw [h1', (N₁ _ (List.mem_append_right _ hmem₁)).1] at h2
            exact Prod.ext h1' (Option.some.inj h2).symm
          rw [h3]; exact N' _ (List.mem_cons_of_mem _ hmm)
      · exact N' _ (List.mem_cons_of_mem _ hp)
    refine wpAny_mono (hJ it hh' tk' F₁ N₂) (fun f s₂ p => ?_) fun _ _ e => e
    cases f with
    | ret v => exact .ret p
    | brk => exact .brk p
    | next => exact .next (fin _ p)
    | cont => exact .cont (fin _ p)
  · rintro h' tk m' news' F' N' _ ⟨_, hJ⟩
    have z : vs.drop vs.toArray.size = [] := by rw [List.size_toArray]; exact List.drop_length
    rw [z] at hJ
    exact hJ h' tk F' N'
theorem unr_find {h₀ : Heap} {L I : Addr} {it : Obj} {rest : (Str → Option Value) → List (Addr × Obj) → Prop} {s₁ : Shared} {h' : Heap} {tk : Nat} {m' : Str → Option Value} {all tl : List (Addr × Obj)} (F : Fr h₀ L h' m') (N : News h₀ L h' all)
    (hs : ∀ p ∈ (I, it) :: tl, p ∈ all) (off : ∀ p ∈ tl, p.1 ≠ I) (r : rest m' tl) : UnrEnd h₀ L s₁ I it rest { s₁ with heap := h', toks := tk } := UnrEnd.intro F N tl hs off r
end
theorem lines47 : True := by
  (k_with "m_find" => first | with_reducible exact fun _ h => h | exact fun _ h => h | (with_reducible refine m_sub_skip ?_; k_extra "m_find"))
  (k_with "UnrEnd" => (with_unfolding_all (refine' unr_find ?z72F ?z72N ?z72hs ?z72off ?_; (case z72F => assumption); (case z72N => assumption); (case z72hs => k_extra "m_find"); (case z72off => k_extra "m_off"); (try dsimp only); (try (refine And.intro (by k_mem) ?_)))))
  (k_with "TupRest" => (with_unfolding_all first | (refine TupRest.succ (fun it' h' tk' F' N' => ?_)) | (refine TupRest.zero (fun h' tk' F' N' => ?_))))
  (k_with "pyIter ref" => ((with_reducible show wpAny _ _ (pyIter (Value.ref _)) (fun it s₂ => LoopAtV _ _ _ _ _ _ _ _ _ it s₂) _ _); k_here; (with_unfolding_all refine' iter_tup ?z74h ?z74F ?z74N ?z74m ?_; (case z74h => rfl); (case z74F => assumption); (case z74N => assumption); (case z74m => k_mem)); intro i' l1; (try k_lt l1)))
  trivial
-- TimO
theorem lines48 : True := by
  w_top off
  trivial
set_option maxHeartbeats 2000000 in
theorem timO_c (w : World) (mean : ExcName → Option Value) (mg mb : Str → Option Value) (x dx : Addr) (a0 a1 a2 a3 : Int) (u0 u1 u2 u3 t0 t1 t2 t3 : Tok) (news : List (Addr × Obj))
   (hx : (x, instObj 83 dx) ∈ news) (hd : (dx, timD w.params a0 a1 a2 a3 u0 u1 u2 u3 t0 t1 t2 t3) ∈ news)
   (h0 : 0 ≤ a0) (h0' : a0 ≤ 255) (h1 : 0 ≤ a1) (h1' : a1 ≤ 255) (h2 : 0 ≤ a2) (h2' : a2 ≤ 255) (h3 : 0 ≤ a3) (h3' : a3 ≤ 255) :
   Ctr w mean mg mb 3 163 [.ref x] news (RB [a0, 0, a1, 0, a2, 0, a3, 0] news) := by
  k_extra "m_fill"
  unfold Ctr
  intro dp un gd cn cs a ccd cl outer A₀ base h₀ L m s Q E B F X N T hk hdp hun hret
  refine wpAny_call ?_
  k_dflt cell_enter
  k_steps
  all_goals (refine hret _ _ _ _ ⟨⟨_, _, rfl, ints_is (KBw.ints_app (KBw.ints_app (KBw.ints_app (KBw.ints_app (b := #[]) (ks := []) rfl (by assumption)) (by assumption)) (by assumption)) (by assumption)) ?_⟩, rfl⟩ (by assumption) (cb_drop (by assumption) (by k_extra "m_sub")))
  all_goals (simp only [oct2, List.nil_append, List.cons_append, List.cons.injEq, and_true]; omega)
-- Tsl
theorem lines49 : True := by
  w_top off
  trivial
section
variable {prog : Program} {w : World} {A : Around} {E : Value → Shared → Prop} {s : Shared} {h₀ : Heap} {L : Addr} {m : Str → Option Value} {news : List (Addr × Obj)}
theorem tup_from {value slice : PySem.Expr} {t : Addr} {vs zs : List Value} {n : Nat} {k : Int} {u : Tok} {Q : Value → Shared → Prop}
    (F : Fr h₀ L s.heap m) (N : News h₀ L s.heap news) (hm : (t, tupOf vs n) ∈ news) (h1 : 1 ≤ k) (ha : k.toNat ≤ vs.length) (hz : vs.length ≤ 100) (e : vs.drop k.toNat = zs)
    (h : ∀ D h', Fr h₀ L h' m → News h₀ L h' ((D, tupOf zs 0) :: news) → (∀ p ∈ news, p.1 < D) → Q (.ref D) { s with heap := h' })
    (hs : subscripted slice false (.ref t) (.ref s.heap.objs.size) = operate [.ref s.heap.objs.size, .ref t] (getItem (.ref t) (.ref s.heap.objs.size)))
    (hg : ∀ r, letTemporaryGo value (.ref t) r = pure ()) :
    wpAny (model prog w) A (subscriptTail value slice (.ref t) (.ref s.heap.objs.size)) Q E { s with heap := s.heap.push { cls := .type "slice", data := .fields #[.int k u, .none, .none] } } := by
  obtain ⟨a, rfl⟩ := Int.eq_ofNat_of_zero_le (show 0 ≤ k by omega)
  subst e
  have ht : IsTup s.heap t vs.toArray := ⟨_, (N _ hm).1, rfl, n, rfl⟩
  refine slice_tuple_from F N ht (by omega) (by rw [List.size_toArray]; omega) (fun h' F' N' => h _ h' F' (by simpa [tupOf] using N') fun p hp => Nat.lt_succ_of_lt (Heap.lt_size (N p hp).1)) hs hg (by rw [List.size_toArray, sizeLine_eq]; omega)
theorem adjust_upto (b n : Nat) (hb : b ≤ n) : Builtin.Slice.sliceAdjust none (some (b : Int)) 1 (n : Int) = (0, (b : Int)) := by
  unfold Builtin.Slice.sliceAdjust
  have h1 : ¬ ((1 : Int) < 0) := by omega
  have h2 : ¬ ((b : Int) < 0) := by omega
  simp only [h1, h2, if_false]
  congr 1
  omega
theorem places_upto (b : Nat) : Builtin.Slice.slicePlaces 0 (b : Int) 1 = b := by
  unfold Builtin.Slice.slicePlaces
  have h1 : (1 : Int) > 0 := by omega
  simp only [h1, if_true, Int.ediv_one]
  split <;> omega
theorem sliceApplied_upto {sl : Addr} {b n : Nat} {u : Tok} {Q : Int × Int × Nat → Shared → Prop} (hs : s.heap.IsSliceOf sl .none (.int b u) .none) (hb : b ≤ n) (h : Q (0, 1, b) s) :
    wpAny (model prog w) A (Builtin.Slice.sliceApplied (.ref sl) (pure (n : Int))) Q E s := by
  obtain ⟨os, hos, hcs, hds⟩ := id hs
  unfold Builtin.Slice.sliceApplied Builtin.Slice.sliceFields
  refine wpAny_bind (wpAny_bind (wpAny_field hos hds (x := .none) rfl (wpAny_bind (wpAny_field hos hds (x := .int b u) rfl (wpAny_bind (wpAny_field hos hds (x := .none) rfl (wpAny_pure ?_)))))))
  refine wpAny_bind (slicePart_none ?_)
  show wpAny _ _ (if ((1 : Int) == 0) = true then _ else _) _ _ s
  rw [if_neg (by decide)]
  refine wpAny_bind (slicePart_none (wpAny_bind (slicePart_int (wpAny_bind (wpAny_pure ?_)))))
  show wpAny _ _ (match Builtin.Slice.sliceAdjust none (some (b : Int)) 1 (n : Int) with | (lo, hi) => pure (lo, (1 : Int), Builtin.Slice.slicePlaces lo hi 1)) _ _ s
  rw [adjust_upto b n hb]
  show wpAny _ _ (pure ((0 : Int), (1 : Int), Builtin.Slice.slicePlaces 0 (b : Int) 1)) _ _ s
  rw [places_upto b]
  exact wpAny_pure h
theorem pick_upto (xs : Array Value) (b : Nat) : ((List.range b).filterMap fun (k : Nat) => xs[((0 : Int) + (k : Int) * 1).toNat]?).toArray = (xs.toList.take b).toArray := by
  have e : (fun (k : Nat) => xs[((0 : Int) + (k : Int) * 1).toNat]?) = fun k => xs[0 + k]? := by
    funext k
    have : ((0 : Int) + (k : Int) * 1).toNat = 0 + k := by omega
    rw [this]
  rw [e]
  have := pick_run xs 0 b
  rw [List.filterMap_map] at this
  have e2 : ((fun x => xs[x]?) ∘ fun x => 0 + x) = fun k => xs[0 + k]? := rfl
  rw [e2] at this
  rw [this, List.drop_zero]
theorem getItem_tuple_upto {t sl : Addr} {items : Array Value} {b : Nat} {u : Tok} {Q : Value → Shared → Prop} (ht : IsTup s.heap t items) (hs : s.heap.IsSliceOf sl .none (.int b u) .none) (hb : b < items.size)
    (h : Q (.ref s.heap.objs.size) { s with heap := s.heap.push { cls := .type "tuple", data := .seq (items.toList.take b).toArray } })
    (hsz : items.size ≤ sizeLine) : wpAny (model prog w) A (getItem (.ref t) (.ref sl)) Q E s := by
  have hdrop : sizeOk (.seq (items.toList.take b).toArray) := by
    show (items.toList.take b).toArray.size ≤ sizeLine
    rw [List.size_toArray, List.length_take, Array.length_toList]
    omega
  obtain ⟨os, hos, hcs, hds⟩ := id hs
  have hTs : s.TypeIs (.ref sl) "slice" := ⟨os, hos, hcs⟩
  unfold getItem
  try with_reducible refine wpAny_holding ?_
  first | refine wpAny_bind (wpAny_pure ?_) | skip
  refine wpAny_bind (wpAny_sequenceKey ht.typeIs (by decide) ?_)
  refine wpAny_bind (wpAny_callSpecial?_slot (name := Str.ofString "__getitem__") ht.typeIs slot_tuple_getitem
    (wpAny_call_entry slot_tuple_getitem ht.typeIs entry_tuple_getitem ?_ (args_tuple_getitem _ _)))
  show wpAny _ _ (Builtin.Tuple.tupleItemsOf (.ref t) >>= _) _ _ s
  refine wpAny_bind (tupleItemsOf_ ht ?_)
  refine wpAny_bind (wpAny_typeOf hTs ?_)
  rw [if_pos (by decide)]
  refine wpAny_bind (sliceApplied_upto hs (Nat.le_of_lt hb) ?_)
  have hno : ¬ (((0 : Int) == 0 && (1 : Int) == 1 && b == items.size) = true) := by
    have : (b == items.size) = false := by rw [beq_eq_false_iff_ne]; omega
    rw [this]; simp
  show wpAny _ _ (if ((0 : Int) == 0 && (1 : Int) == 1 && b == items.size) = true then _ else _) _ _ s
  rw [if_neg hno, pick_upto items b]
  first
    | exact wpAny_bind (m := Builtin.Tuple.tupleExact _) (wpAny_newObj_type (wpAny_pure ⟨_, rfl, wpAny_pure h⟩) hdrop)
    | exact wpAny_bind (m := Builtin.Tuple.tupleExact _) (wpAny_newObj_type (wpAny_bind (wpAny_pure (wpAny_pure ⟨_, rfl, wpAny_pure h⟩))) hdrop)
    | exact wpAny_bind (wpAny_bind (m := Builtin.Tuple.tupleExact _) (wpAny_newObj_type (wpAny_pure (wpAny_pure ⟨_, rfl, wpAny_pure h⟩)) hdrop))
    | exact wpAny_bind (wpAny_bind (m := Builtin.Tuple.tupleExact _) (wpAny_newObj_type (wpAny_pure ⟨_, rfl, wpAny_pure h⟩) hdrop))
theorem tup_upto {value slice : PySem.Expr} {t : Addr} {vs zs : List Value} {n : Nat} {k : Int} {u : Tok} {Q : Value → Shared → Prop}
    (F : Fr h₀ L s.heap m) (N : News h₀ L s.heap news) (hm : (t, tupOf vs n) ∈ news) (h1 : 0 ≤ k) (ha : k.toNat < vs.length) (hz : vs.length ≤ 100) (e : vs.take k.toNat = zs)
    (h : ∀ D h', Fr h₀ L h' m → News h₀ L h' ((D, tupOf zs 0) :: news) → (∀ p ∈ news, p.1 < D) → Q (.ref D) { s with heap := h' })
    (hs : subscripted slice false (.ref t) (.ref s.heap.objs.size) = operate [.ref s.heap.objs.size, .ref t] (getItem (.ref t) (.ref s.heap.objs.size)))
    (hg : ∀ r, letTemporaryGo value (.ref t) r = pure ()) :
    wpAny (model prog w) A (subscriptTail value slice (.ref t) (.ref s.heap.objs.size)) Q E { s with heap := s.heap.push { cls := .type "slice", data := .fields #[.none, .int k u, .none] } } := by
  obtain ⟨b, rfl⟩ := Int.eq_ofNat_of_zero_le h1
  subst e
  have ht : IsTup s.heap t vs.toArray := ⟨_, (N _ hm).1, rfl, n, rfl⟩
  have ht' : IsTup (s.heap.push { cls := .type "slice", data := .fields #[.none, .int b u, .none] }) t vs.toArray := ht.keeps fun _ _ e => Heap.get?_push_of_some _ e
  refine subscriptTail_ops (s := { s with heap := s.heap.push { cls := .type "slice", data := .fields #[.none, .int b u, .none] } }) ht'.typeIs slot_tuple_getitem.lookup
    (getItem_tuple_upto ht' (Heap.IsSliceOf.new ..) (by rw [List.size_toArray]; omega) ?_ (by rw [List.size_toArray, sizeLine_eq]; omega)) hs hg
  have N1 := News.push (F.push { cls := .type "slice", data := .fields #[.none, .int b u, .none] }) (N.grown fun _ _ e => Heap.get?_push_of_some _ e) { cls := .type "tuple", data := .seq (vs.take b).toArray }
  rw [Heap.size_push] at N1
  show Q (.ref (s.heap.push _).objs.size) _
  rw [Heap.size_push]
  exact h _ _ ((F.push _).push _) N1 fun p hp => Nat.lt_succ_of_lt (Heap.lt_size (N p hp).1)
end
theorem lines50 : True := by
  (k_with "subscriptTail Name Slice ref ref" => (k_here; (with_reducible show wpAny _ _ (subscriptTail _ (PySem.Expr.Slice (some _) none none _) (Value.ref _) (Value.ref _)) _ _ _); k_dflt (refine' tup_from ?z75F ?z75N ?z75m ?z75h1 ?z75ha ?z75z ?z75e ?_ ?z75s ?z75g; (case z75F => k_asm); (case z75N => k_asm); (case z75m => k_mem); (case z75h1 => decide); (case z75ha => exact Nat.le_of_ble_eq_true rfl); (case z75z => exact Nat.le_of_ble_eq_true rfl); (case z75e => kl_lit); (case z75s => with_unfolding_all rfl); (case z75g => kmk_pure)); intro D' h' F' N' l1; (try k_lt l1); (try k_sweep)))
  (k_with "subscriptTail Name Slice ref ref" => (k_here; (with_reducible show wpAny _ _ (subscriptTail _ (PySem.Expr.Slice none (some _) none _) (Value.ref _) (Value.ref _)) _ _ _); k_dflt (refine' tup_upto ?z76F ?z76N ?z76m ?z76h1 ?z76ha ?z76z ?z76e ?_ ?z76s ?z76g; (case z76F => k_asm); (case z76N => k_asm); (case z76m => k_mem); (case z76h1 => decide); (case z76ha => exact Nat.le_of_ble_eq_true rfl); (case z76z => exact Nat.le_of_ble_eq_true rfl); (case z76e => kl_lit); (case z76s => with_unfolding_all rfl); (case z76g => kmk_pure)); intro D' h' F' N' l1; (try k_lt l1); (try k_sweep)))
  trivial
-- TimR
theorem lines51 : True := by
  w_top off
  trivial
section
variable {h₀ : Heap} {L D : Addr} {m : Str → Option Value}
theorem callWith_KF {prog : Program} {w : World} {A : Around} {E : Value → Shared → Prop} {s : Shared} {env : Env} {K : Frag} {Q : Value → Shared → Prop} {pos : Pos} {f : Value} {first : List Value} (F : Fr h₀ L s.heap m) (X : K.In h₀) (hk : keepIn K f = true) (h : wpAny (model prog w) A (call f (first ++ [])) Q E s) : wpAny (model prog w) A (callWith pos f first (backTo pos (starEach [] env)) []) Q E s :=
  callWith_K0 (X.keeps F.keep) hk h
theorem comp_find {I C : Addr} {s₁ : Shared} {oI oC oD : Obj} {S : List (Addr × Obj) → Prop} {rest : Value → List (Addr × Obj) → Prop} {y : Value} {h' : Heap} {tk : Nat} {all tl : List (Addr × Obj)}
    (F : Fr h₀ L h' m) (N : News h₀ L h' all) (hs : ∀ p ∈ (I, oI) :: (C, oC) :: (D, oD) :: tl, p ∈ all) (off : LCg.Off3 I C D tl) (hS : S tl) (r : rest y tl) :
    LCg.CompEnd h₀ L m s₁ I oI C oC D oD S rest y { s₁ with heap := h', toks := tk } := LCg.CompEnd.intro F N tl hs off hS r
end
theorem lines52 : True := by
  (k_with "CompEnd" => (with_unfolding_all ((try dsimp only [List.nil_append]); refine' comp_find ?z77F ?z77N ?z77hs ?z77off ?z77S ?_; (case z77F => assumption); (case z77N => assumption); (case z77hs => k_extra "m_find"); (case z77off => k_extra "m_off3"); (case z77S => k_extra "m_compS"))))
  (k_with "call ref" => (k_here; (with_reducible show wpAny _ _ (call (Value.ref 163) [Value.ref _]) _ _ _); k_dflt (refine' useB ?z78k1 ?z78k2 ?z78k3 ?z78k4 ?z78k5 ?z78k6 (timO_c _ _ _ _ _ _ _ _ _ _ _ _ _ _ _ _ _ _ _ ?z78x ?z78d ?z78x0 ?z78x1 ?z78x2 ?z78x3 ?z78x4 ?z78x5 ?z78x6 ?z78x7) ?z78k7 ?z78k8 ?_; (case z78k4 => k_asm); (case z78x => k_mem); (case z78d => k_mem); (case z78x0 => k_extra "m_num"); (case z78x1 => k_extra "m_num"); (case z78x2 => k_extra "m_num"); (case z78x3 => k_extra "m_num"); (case z78x4 => k_extra "m_num"); (case z78x5 => k_extra "m_num"); (case z78x6 => k_extra "m_num"); (case z78x7 => k_extra "m_num"); ((case z78k1 => k_asm); (case z78k2 => k_asm); (case z78k3 => k_asm); (try (case z78k4 => k_asm)); (case z78k5 => k_asm); (case z78k6 => first | exact rfl | assumption); (case z78k7 => ktr_room); (case z78k8 => ktr_units))); intro b' t' h' tk' hb' F' N'; (try dsimp only); (try k_sweep)))
  (k_with "exec For" => ((with_reducible show wpAny _ _ (exec (Stmt.For (PySem.Expr.Name _ _) (PySem.Expr.Name _ _) _ [] _) _) _ _ _); k_here; (rename Fr _ _ _ _ => lF'); (with_unfolding_all refine' For_invVF lF' ?z79k1 ?z79k2 ?_; (case z79k1 => exact rfl); (case z79k2 => exact rfl)); (try dsimp only)))
  (k_with "callWith ref" => (k_here; (with_reducible show wpAny _ _ (callWith _ _ _ (backTo _ (starEach [] _)) []) _ _ _); k_dflt (refine' callWith_KF ?z80k0 ?z80k1 ?z80k2 ?_; (case z80k0 => k_asm); (case z80k1 => k_asm); (case z80k2 => k_is); k_whole); (try dsimp only [List.nil_append, List.cons_append])))
  trivial
theorem le4 {a b c d a' b' c' d' : Int} (h : (a' == a && (b' == b && (c' == c && d' == d))) = false) (ha : a' = a) (hb : b' = b) (hc : c' = c) (hd : d' = d) : False := by subst ha hb hc hd; simp at h
set_option maxHeartbeats 16000000 in
theorem timR_c (w : World) (mean : ExcName → Option Value) (mg mb : Str → Option Value) (src : Addr) (o : Obj) (rest : List (Addr × Obj))
   (ho : IsSrc o) (hrest : ∀ p ∈ rest, p.1 ≠ src) :
   Ctr w mean mg mb 24 248 [.ref src] ((src, o) :: rest) (fun v news' => ∃ ex o', (v = .bool true ∧ IsSrc o' ∧ ex = []) ∧ news' = ex ++ (src, o') :: rest) := by
  k_extra "m_fill"
  unfold Ctr
  intro dp un gd cn cs a ccd cl outer A₀ base h₀ L m s Q E B F X N T hk hdp hun hret
  refine wpAny_call ?_
  k_dflt k_extra "m_enterC"
  k_steps
  · refine' hret _ _ _ _ ⟨[], _, ⟨rfl, ?R, rfl⟩, rfl⟩ ?F ?N
    (case R => assumption)
    (case F => assumption)
    (case N => (dsimp only [List.nil_append]; exact cb_drop (by assumption) (by k_extra "m_sub")))
  all_goals exact (le4 (by assumption) (by assumption) (by assumption) (by assumption) (by assumption)).elim
-- ExcN
theorem lines53 : True := by
  w_top off
  trivial
abbrev excO (C t : Addr) : Obj := { cls := .ref C, data := .fields #[.ref t, .none, .none, .none, .bool false, .none] }
abbrev tupO (vs : List Value) : Obj := { cls := .type "tuple", data := .seq vs.toArray }
section
variable {prog : Program} {w : World} {A : Around} {R : Result → Shared → Prop} {h : Heap} {g : Array GenState} {d : Drawn} {t : Nat} {os : OsState}
variable {nm q : Str} {C N S : Addr} {bs bm : List Value} {hdct : Bool} {sn : List Str} {sub : List Value} {ab : Bool} {col : Option Bool} {dd : Option Addr} {k0 k1 k2 k3 k5 : Option Value} {B newId initId : String}
theorem exc_checkI (F : ExcBaseFacts B newId initId bm) {M : Model} {E : Value → Shared → Prop} {rest : List Value} {Q : Unit → Shared → Prop} (hC : h.get? C = some (excClassObj nm q C N bs (.ref S :: bm) hdct sn sub ab col dd k0 k1 k2 k3 k5 newId))
    (hq : Q () ⟨h, g, d, t, os⟩) : wpAny M A (checkBuiltinCall newId ⟨.ref C :: rest, []⟩) Q E ⟨h, g, d, t, os⟩ := by
  have c1 : (Value.ref C :: Value.ref S :: bm).contains (.type B) = true := by rw [List.contains_cons, List.contains_cons, F.hasB, Bool.or_true, Bool.or_true]
  have hstar := F.noStar
  simp only [checkBuiltinCall, F.newKind, F.newSplit, F.newRow]
  repeat (first | refine wpAny_loadPart_at hC ?_ | (refine wpAny_isSubtype_exc hC ?_; rw [c1]) | refine wpAny_staticBase_exc hC ?_ | refine wpAny_madeBy_exc hC ?_ | simp only [bne_self_eq_false, Bool.false_eq_true, if_false] | wp_step)
  exact hq
theorem exc_newI (F : ExcBaseFacts B newId initId bm) {rest : List Value} (hC : h.get? C = some (excClassObj nm q C N bs (.ref S :: bm) hdct sn sub ab col dd k0 k1 k2 k3 k5 newId))
    (hq : R (.ok (.ret (.ref (h.objs.size + 1)))) ⟨(h.push (tupO rest)).push (excO C h.objs.size), g, d, t, os⟩) (hrest : rest.length ≤ sizeLine) :
    codeAny (model prog w) A (.builtin newId ⟨.ref C :: rest, []⟩) R ⟨h, g, d, t, os⟩ := by
  have hends := F.ends
  have c1 : (Value.ref C :: Value.ref S :: bm).contains (.type B) = true := by rw [List.contains_cons, List.contains_cons, F.hasB, Bool.or_true, Bool.or_true]
  have c2 : (Value.ref C :: Value.ref S :: bm).contains (.type "AttributeError") = false := by rw [List.contains_cons, List.contains_cons, F.noAttr]; rfl
  have c3 : (Value.ref C :: Value.ref S :: bm).contains (.type "NameError") = false := by rw [List.contains_cons, List.contains_cons, F.noName]; rfl
  refine codeAny_builtinAt F.entry ?_
  unfold Builtin.«BaseException.__new__»
  refine PySem.wpAt_bind ?_
  show PySem.wpAt _ _ _ (stack >>= _) _ _ _
  refine PySem.wpAt_bind (PySem.wpAt_stack fun p below => PySem.wpAt_of_wpAny ?_)
  wp_walk
  refine PySem.wpAt_of_wpAny ?_
  rw [F.owner]
  repeat (first | with_reducible refine wpAny_madeHere_exc F.canon hC ?_ | with_reducible refine wpAny_loadPart_at hC ?_ | (with_reducible refine wpAny_isSubtype_exc hC ?_; first | rw [c1] | rw [c2] | rw [c3]) | wp_step)
  show R _ _
  rw [Heap.size_push]
  exact hq
theorem exc_coreI (F : ExcBaseFacts B newId initId bm) {rest : List Value} {fI : Addr} (hC : h.get? C = some (excClassObj nm q C N bs (.ref S :: bm) hdct sn sub ab col dd k0 k1 k2 k3 k5 newId))
    (hi : Looks (model prog w) h (typeLookup (.ref C) "__init__") (some (.ref fI))) (hb : ∀ self, Looks (model prog w) h (bindSpecial (.ref fI) self) (.ref fI, [self]))
    (hq : codeAny (model prog w) (A.under (.builtin "type.__call__" ⟨.ref C :: rest, []⟩)) (.call (.ref fI) ⟨.ref (h.objs.size + 1) :: rest, []⟩) (InitBack (h.objs.size + 1) R) ⟨(h.push (tupO rest)).push (excO C h.objs.size), g, d, t, os⟩) (hrest : rest.length ≤ sizeLine) :
    codeAny (model prog w) A (.call (.ref C) ⟨rest, []⟩) R ⟨h, g, d, t, os⟩ := by
  have f1 := tc_lookup
  have f2 := tc_bind (.ref C)
  have hT : (⟨h, g, d, t, os⟩ : Shared).TypeIs (.ref C) "type" := ⟨_, hC, rfl⟩
  refine codeAny_of_tree ?_
  show wpAny _ _ (callAny (.ref C) _) _ _ _
  repeat (any_goals (first | assumption | with_reducible refine wpAny_loadPart_at hC ?_ | wp_step))
  refine ⟨rfl, ?_⟩
  refine codeAny_call_builtin_at (Code.quiet_builtin _ (by decide +kernel)) entry_typeCall (wpAny_check_type_call_sub hC ?_)
  repeat (first | with_reducible refine wpAny_loadPart_at hC ?_ | with_reducible refine wpAny_madeBy_exc hC ?_ | wp_step)
  refine codeAny_call_builtin_code (Code.quiet_builtin _ F.quiet) (exc_checkI F hC ?_)
  refine exc_newI (rest := rest) F hC ?_ hrest
  show wpAny _ _ _ _ _ _
  have k : ∀ b o, h.get? b = some o → ((h.push (tupO rest)).push (excO C h.objs.size)).get? b = some o := fun b o e => Heap.get?_push_of_some _ (Heap.get?_push_of_some _ e)
  have hC₁ := k _ _ hC
  have hget : ((h.push (tupO rest)).push (excO C h.objs.size)).get? (h.objs.size + 1) = some { cls := .ref C, data := .fields #[.ref h.objs.size, .none, .none, .none, .bool false, .none] } := by heap_get
  have hcC : (Value.ref C :: Value.ref S :: bm).contains (.ref C) = true := by simp
  have i1 := hi.keeps k
  have b1 := (hb (.ref (h.objs.size + 1))).keeps k
  unfold isInstance
  repeat (first | with_reducible refine wpAny_loadPart_at hget ?_ | (with_reducible refine wpAny_isSubtype_exc hC₁ ?_; rw [hcC]) | wp_step)
  show wpAny _ _ (typeLookup (.ref C) _) _ _ _
  refine i1.at ?_
  refine wpAny_holding (wpAny_bind (b1.at ?_))
  refine wpAny_bind (wpAny_call ?_)
  refine codeAny_mono hq fun r s' z => ?_
  rcases r with e | (v | _ | _ | _) <;> first | exact z | exact z.elim | skip
  obtain ⟨rfl, z⟩ := z
  wp_walk
  exact z
end
section
variable {prog : Program} {w : World} {A : Around} {E : Value → Shared → Prop} {s : Shared} {K : Frag} {C L : Addr} {h₀ : Heap} {m : Str → Option Value} {news : List (Addr × Obj)} {Q : Value → Shared → Prop}
variable {nm q : Str} {N S : Addr} {bs bm : List Value} {hdct : Bool} {sn : List Str} {sub : List Value} {ab : Bool} {col : Option Bool} {dd : Option Addr} {k0 k1 k2 k3 k5 : Option Value} {B newId initId : String}
theorem call_excI {pos : List Value} {fI : Addr} (F : Fr h₀ L s.heap m) (X₀ : K.In h₀) (N' : News h₀ L s.heap news) (FB : ExcBaseFacts B newId initId bm) (hC : K.lookup C = some (excClassObj nm q C N bs (.ref S :: bm) hdct sn sub ab col dd k0 k1 k2 k3 k5 newId))
    (hi : findIn K (.ref C) "__init__" = some (some (.ref fI))) (hf : isFn K (.ref fI) = true) (hp : pos.length ≤ sizeLine)
    (h : ∀ e t h', Fr h₀ L h' m → News h₀ L h' ((e, excO C t) :: (t, tupO pos) :: news) → (∀ p ∈ news, p.1 < t) → t < e →
      codeAny (model prog w) (A.under (.builtin "type.__call__" ⟨.ref C :: pos, []⟩)) (.call (.ref fI) ⟨.ref e :: pos, []⟩) (InitBack e fun r s' => match r with | .ok (.ret v) => Q v s' | .ok _ => False | .error e => E e s') { s with heap := h' }) :
    wpAny (model prog w) A (call (.ref C) pos []) Q E s := by
  obtain ⟨hh, g, d, t, os⟩ := s
  have X := X₀.keeps F.keep
  refine wpAny_call (exc_coreI FB (X _ _ hC) (looks_findIn X hi) (fun self => bind_fn X self (beq_iff_eq.mp hf)) (h _ hh.objs.size _ ((F.push _).push _) ?_ (fun p hp => Heap.lt_size (N' p hp).1) (Nat.lt_succ_self _)) hp)
  have := (N'.push F (tupO pos)).push (F.push _) (excO C hh.objs.size)
  rwa [Heap.size_push] at this
end
section
variable {prog : Program} {w : World} {A : Around} {E : Value → Shared → Prop} {h : Heap} {g : Array GenState} {d : Drawn} {t : Nat} {os : OsState}
variable {nm q : Str} {C N S : Addr} {bs bm : List Value} {hdct : Bool} {sn : List Str} {sub : List Value} {ab : Bool} {col : Option Bool} {dd : Option Addr} {k0 k1 k2 k3 k5 : Option Value} {B newId initId : String}
theorem exc_checkInitI (F : ExcBaseFacts B newId initId bm) {M : Model} {e : Addr} {oe : Obj} {rest : List Value} {Q : Unit → Shared → Prop}
    (hC : h.get? C = some (excClassObj nm q C N bs (.ref S :: bm) hdct sn sub ab col dd k0 k1 k2 k3 k5 newId)) (he : h.get? e = some oe) (hcls : oe.cls = .ref C) (hq : Q () ⟨h, g, d, t, os⟩) :
    wpAny M A (checkBuiltinCall initId ⟨.ref e :: rest, []⟩) Q E ⟨h, g, d, t, os⟩ := by
  have c1 : (Value.ref C :: Value.ref S :: bm).contains (.type B) = true := by rw [List.contains_cons, List.contains_cons, F.hasB, Bool.or_true, Bool.or_true]
  have hshort := F.noStar
  simp only [checkBuiltinCall, F.initKind, F.initSplit, F.initRow]
  repeat (first | (with_reducible refine wpAny_loadPart_at he ?_; rw [hcls]) | with_reducible refine wpAny_loadPart_at hC ?_ | (with_reducible refine wpAny_isSubtype_exc hC ?_; rw [c1]) | wp_step)
  refine wpAny_onRaise ?_
  rw [show ∀ (a b : String) (n : Nat), Bind.check ⟨.positional, "*", B, .self, [⟨"args", .varPos, false⟩]⟩ a b n (List.map (fun x => x.fst) ({ pos := Value.ref e :: rest } : Args).kw) = pure () from
    fun a b n => check_star_args _ _ _ _ _ _]
  exact wpAny_pure hq
theorem exc_initI (F : ExcBaseFacts B newId initId bm) {e t0 : Addr} {rest : List Value} {Q : Value → Shared → Prop}
    (hC : h.get? C = some (excClassObj nm q C N bs (.ref S :: bm) hdct sn sub ab col dd k0 k1 k2 k3 k5 newId)) (he : h.get? e = some { cls := .ref C, data := .fields #[.ref t0, .none, .none, .none, .bool false, .none] }) (hrest : rest.length ≤ sizeLine)
    (hq : Q .none ⟨(h.push (tupO rest)).update e (Obj.mapFields (·.setIfInBounds 0 (.ref h.objs.size))), g, d, t, os⟩) :
    wpAny (model prog w) A (call (.builtin initId) (.ref e :: rest)) Q E ⟨h, g, d, t, os⟩ := by
  refine wpAny_call (codeAny_call_builtin F.init.plain F.initEntry (exc_checkInitI F hC he rfl ?_))
  wp_walk
  exact hq
end
-- SetX
theorem lines54 : True := by
  w_top off
  trivial
section
open PySem.Builtin PySem.Builtin.ObjectAttr
theorem exc_refuse (self : Value) (A B : Addr) : refuseLoop self "__setattr__" [.ref A, .ref B, .type "Exception", .type "BaseException", .type "object"] = pure () := by rw [refuseLoop_ref, refuseLoop_ref]; kernel_rfl
section
variable {prog : Program} {w : World} {A : Around} {R : Result → Shared → Prop} {s : Shared} {K : Frag} {C S x : Addr}
variable {nm q : Str} {N : Addr} {bs : List Value} {sn : List Str} {sub : List Value} {ab : Bool} {col : Option Bool} {dd : Option Addr} {k0 k1 k2 k3 k5 : Option Value} {newId : String}
theorem osa_openX {ox : Obj} {od : Option Obj} {name : Str} {tk : Tok} {v : Value} (X : K.In s.heap) (I : InstAt s.heap x ox C od)
    (hC : K.lookup C = some (excClassObj nm q C N bs [.ref S, .type "Exception", .type "BaseException", .type "object"] true sn sub ab col dd k0 k1 k2 k3 k5 newId)) (ht : takerIn K C name = some none)
    (h : ∀ b, wpAny (model prog w) A.in1 (storeInOwnDict (.ref x) (.ref C) (.str name tk) name v b)
      (fun fin s' => match fin with | .done f => R (.ok f) s' | .again c' => c'.quiet = true ∧ codeAny (model prog w) A c' R s') (fun e s' => R (.error e) s') s) :
    codeAny (model prog w) A (.call (.builtin "object.__setattr__") ⟨[.ref x, .str name tk, v], []⟩) R s := by
  have SF := PySem.F.store_object
  obtain ⟨cd, hc, ho, -⟩ : ∃ cd, clsIn K C = some cd ∧ cd.mro = [.ref C, .ref S, .type "Exception", .type "BaseException", .type "object"] ∧ cd.hasDict = true := by
    have e : clsIn K C = some { name := nm, bases := bs, mro := [.ref C, .ref S, .type "Exception", .type "BaseException", .type "object"], ns := N, qualname := q, hasDict := true, slotNames := sn, subclasses := sub, abstract := ab, collection := col, hasDel := false } := by unfold clsIn; rw [hC]
    exact ⟨_, e, rfl, rfl⟩
  have ne : cd.mro.isEmpty = false := by rw [ho]; rfl
  have sub : Looks (model prog w) s.heap (isInstance (.ref x) (.type "object")) true := I.type.andThen (looks_mroIn X (by unfold mroIn; rw [hc, Option.bind_some, if_neg (by rw [ne]; decide), ho]; rfl))
  refine codeAny_call_builtin SF.slot.plain SF.entry (@check_slot (model prog w) _ _ s "object.__setattr__" "object" "__setattr__" (.ref x) [.str name tk, v] [] _ SF.kind SF.split sub (SF.args (.ref x) (.str name tk) v) ?_)
  obtain ⟨attr, ha, hr⟩ := Option.bind_eq_some_iff.mp ht
  have hm : Looks (model prog w) s.heap (mroOf (.ref C)) cd.mro := (looks_clsIn X hc).andThen .now
  have L3 : Looks (model prog w) s.heap (storeTaker? attr) none := by
    cases attr with
    | none => cases hr; exact .now
    | some a =>
      obtain ⟨b, hb, hr⟩ := Option.map_eq_some_iff.mp hr
      refine (looks_takesIn X hb).andThen ?_
      cases b
      · exact .now
      · cases hr
  rw [osa_eq, refuse_eq]
  refine wpAny_bind (wpAny_bind (I.type.here (wpAny_bind (hm.here ?_))))
  rw [ho, exc_refuse]
  refine wpAny_pure (wpAny_bind (I.type.here (wpAny_bind ((looks_findIn X ha).here (wpAny_bind (L3.here ?_))))))
  exact h _
end
end
-- SetY
theorem lines55 : True := by
  w_top off
  trivial
section
open PySem.Builtin PySem.Builtin.ObjectAttr
abbrev excD (C t D : Addr) : Obj := { cls := .ref C, dict := some D, data := .fields #[.ref t, .none, .none, .none, .bool false, .none] }
section
variable {prog : Program} {w : World} {A : Around} {E : Value → Shared → Prop} {s : Shared} {K : Frag} {C S x L t : Addr} {h₀ : Heap} {m : Str → Option Value} {pre post : List (Addr × Obj)} {Q : Unit → Shared → Prop}
variable {nm q : Str} {N : Addr} {bs : List Value} {sn : List Str} {sub : List Value} {ab : Bool} {col : Option Bool} {dd : Option Addr} {k0 k1 k2 k3 k5 : Option Value} {newId : String}
theorem store_exc {name : Str} {tk : Tok} {v : Value} {b : Bool} {P : PySem.Fin → Shared → Prop} {E' : Value → Shared → Prop} (F : Fr h₀ L s.heap m) (X₀ : K.In h₀) (N' : News h₀ L s.heap (pre ++ (x, excO C t) :: post)) (h1 : ∀ p ∈ pre, p.1 ≠ x) (h2 : ∀ p ∈ post, p.1 ≠ x)
    (hC : K.lookup C = some (excClassObj nm q C N bs [.ref S, .type "Exception", .type "BaseException", .type "object"] true sn sub ab col dd k0 k1 k2 k3 k5 newId))
    (h : ∀ D od h' tk', Fr h₀ L h' m → News h₀ L h' ((D, od) :: (pre ++ (x, excD C t D) :: post)) → P (.done (.ret .none)) { s with heap := h', toks := tk' }) :
    wpAny (model prog w) A (storeInOwnDict (.ref x) (.ref C) (.str name tk) name v b) P E' s := by
  have X := X₀.keeps F.keep
  have hx := (N' (x, excO C t) (by simp)).1
  have hc : clsIn K C = some { name := nm, bases := bs, mro := [.ref C, .ref S, .type "Exception", .type "BaseException", .type "object"], ns := N, qualname := q, hasDict := true, slotNames := sn, subclasses := sub, abstract := ab, collection := col, hasDel := false } := by unfold clsIn; rw [hC]
  refine wpAny_bind (wpAny_pure (wpAny_bind (wpAny_bind (wpAny_loadPart hx (wpAny_bind ((looks_clsIn X hc).here ?_))))))
  have ht : typeHasDict (Value.ref C) = true := by kernel_rfl
  dsimp only
  simp only [Bool.not_true, Bool.false_eq_true, if_false, ht, Bool.or_false]
  have F1 := F.push emptyDict
  have N1 := N'.push F emptyDict
  have hlt : ∀ p ∈ pre ++ (x, excO C t) :: post, p.1 < s.heap.objs.size := fun p hp => Heap.lt_size (N' p hp).1
  have hDx : s.heap.objs.size ≠ x := fun z => by have := Heap.lt_size hx; rw [← z] at this; exact Nat.lt_irrefl _ this
  obtain ⟨F2, N2⟩ := news_upd (pre := (s.heap.objs.size, emptyDict) :: pre) (f := fun o => { o with dict := some s.heap.objs.size }) (o' := excD C t s.heap.objs.size) F1 N1
    (fun p hp => by rcases List.mem_cons.mp hp with rfl | hp; exact hDx; exact h1 p hp) h2 rfl rfl
  obtain ⟨F3, N3⟩ := news_upd (pre := []) (f := Obj.putName name (PyData.keyHash w.params name) (.str name s.toks) v) (o' := Obj.putName name (PyData.keyHash w.params name) (.str name s.toks) v emptyDict) F2 N2
    (fun p hp => by cases hp) (fun p hp => by
      have : p.1 ≠ s.heap.objs.size := by
        rcases List.mem_append.mp hp with hp | hp
        · exact Nat.ne_of_lt (hlt p (List.mem_append.mpr (.inl hp)))
        · rcases List.mem_cons.mp hp with rfl | hp
          · exact Ne.symm hDx
          · exact Nat.ne_of_lt (hlt p (List.mem_append.mpr (.inr (.tail _ hp))))
      exact this) rfl (by rw [putName_eq (l := [])]; rfl)
  have hD2 := (N2 (s.heap.objs.size, emptyDict) (List.mem_cons_self ..)).1
  have hD3 := (N3 _ (List.mem_cons_self ..)).1
  have hx1 := Heap.get?_push_of_some emptyDict hx
  refine wpAny_bind (wpAny_alloc (wpAny_bind (wpAny_update hx1 (wpAny_pure ?_))))
  refine wpAny_bind (wpAny_pure (wpAny_bind ?_))
  unfold nsSet
  refine wpAny_bind (wpAny_bind (wpAny_askSetting (wpAny_pure (wpAny_bind (wpAny_mkText (wpAny_bind (wpAny_loadPart hD2 ?_)))))))
  refine wpAny_updatePart hD2 ?_
  refine wpAny_bind (wpAny_lookBehind hD3 (by rw [putName_eq (l := [])]; exact pastItsLine_dict (show 1 ≤ sizeLine + 1 from Nat.le_add_left 1 _)) ?_)
  exact wpAny_pure (h _ _ _ _ F3 N3)
theorem set_exc {name : Str} {v : Value} (F : Fr h₀ L s.heap m) (X₀ : K.In h₀) (N' : News h₀ L s.heap (pre ++ (x, excO C t) :: post)) (h1 : ∀ p ∈ pre, p.1 ≠ x) (h2 : ∀ p ∈ post, p.1 ≠ x)
    (hC : K.lookup C = some (excClassObj nm q C N bs [.ref S, .type "Exception", .type "BaseException", .type "object"] true sn sub ab col dd k0 k1 k2 k3 k5 newId)) (ht : takerIn K C name = some none)
    (hs : findIn K (.ref C) "__setattr__" = some (some (.builtin "object.__setattr__")))
    (h : ∀ D od h' tk', Fr h₀ L h' m → News h₀ L h' ((D, od) :: (pre ++ (x, excD C t D) :: post)) → Q () { s with heap := h', toks := tk' }) :
    wpAny (model prog w) A (setAttr (.ref x) name v) Q E s := by
  have X := X₀.keeps F.keep
  have hx := (N' (x, excO C t) (by simp)).1
  have I : InstAt s.heap x (excO C t) C none := ⟨hx, rfl, rfl, trivial⟩
  exact set_plain X I hs (osa_openX (s := { s with toks := s.toks + 1 }) X I hC ht fun b => store_exc (s := { s with toks := s.toks + 1 }) F X₀ N' h1 h2 hC fun D od h' tk' F' N'' => h D od h' tk' F' N'')
theorem set_exc1 {name : Str} {v : Value} {t1 : Addr} {o1 : Obj} (F : Fr h₀ L s.heap m) (X₀ : K.In h₀) (N' : News h₀ L s.heap ((t1, o1) :: (x, excO C t) :: post)) (h1 : t1 ≠ x) (h2 : ∀ p ∈ post, p.1 ≠ x)
    (hC : K.lookup C = some (excClassObj nm q C N bs [.ref S, .type "Exception", .type "BaseException", .type "object"] true sn sub ab col dd k0 k1 k2 k3 k5 newId)) (ht : takerIn K C name = some none)
    (hs : findIn K (.ref C) "__setattr__" = some (some (.builtin "object.__setattr__")))
    (h : ∀ D od h' tk', Fr h₀ L h' m → News h₀ L h' ((D, od) :: (t1, o1) :: (x, excD C t D) :: post) → Q () { s with heap := h', toks := tk' }) :
    wpAny (model prog w) A (setAttr (.ref x) name v) Q E s := set_exc (pre := [(t1, o1)]) F X₀ N' (fun p hp => by rw [List.mem_singleton.mp hp]; exact h1) h2 hC ht hs h
end
end
-- SizeE
theorem lines56 : True := by
  w_top off
  trivial
def RaiseP (C : Addr) (E : Value → Shared → Prop) (v : Value) (s₁ : Shared) : Prop :=
  ∃ (e t N S : Addr) (nm q : Str) (bs bm : List Value) (hdct : Bool) (sn : List Str) (sub : List Value) (ab : Bool) (col : Option Bool) (dd : Option Addr) (k0 k1 k2 k3 k5 : Option Value) (newId : String) (d : Option Addr) (sl : Array (Option Value)),
    v = .ref e ∧ s₁.heap.get? C = some (excClassObj nm q C N bs (.ref S :: bm) hdct sn sub ab col dd k0 k1 k2 k3 k5 newId) ∧ bm.contains (.type "BaseException") = true ∧
      s₁.heap.get? e = some ⟨.ref C, d, .fields #[.ref t, .none, .none, .none, .bool false, .none], sl⟩ ∧ E (.ref e) s₁
section
variable {M : Model} {A : Around} {E : Value → Shared → Prop} {env : Env}
theorem raise_I {C : Addr} {s : Shared} {e0 : PySem.Expr} {pos : Pos} {Q : Flow → Shared → Prop} (hh : A.handled = none)
    (h : wpAny M A (eval e0 env) (RaiseP C E) E s) : wpAny M A (exec (.Raise (some e0) none pos) env) Q E s := by
  show wpAny M A (do standAt pos; raiseStmt env (some (do let v ← eval e0 env; standAt pos; pure v)) none) Q E s
  refine wpAny_bind (wpAny_standAt ?_)
  unfold raiseStmt
  dsimp only
  refine wpAny_bind (wpAny_bind (wpAny_mono h (fun v s₁ h₁ => wpAny_bind (wpAny_standAt (wpAny_pure ?_))) fun _ _ x => x))
  obtain ⟨e, t, N, S, nm, q, bs, bm, hdct, sn, sub, ab, col, dd, k0, k1, k2, k3, k5, newId, d, sl, rfl, hC, hb, he, hE⟩ := h₁
  have hcB : (Value.ref C :: Value.ref S :: bm).contains (.type "BaseException") = true := by rw [List.contains_cons, List.contains_cons, hb, Bool.or_true, Bool.or_true]
  obtain ⟨hp, g, dr, tk, os⟩ := s₁
  repeat (first | with_reducible refine wpAny_loadPart_at he ?_ | with_reducible refine wpAny_loadPart_at hC ?_ | (with_reducible refine wpAny_isSubtype_exc hC ?_; rw [hcB]) | wp_step)
  exact wpAny_raiseNew_none hh hE
end
section
variable {prog : Program} {w : World} {A : Around} {E : Value → Shared → Prop} {s : Shared} {K : Frag} {C L e t0 : Addr} {h₀ : Heap} {m : Str → Option Value} {pre post : List (Addr × Obj)} {Q : Value → Shared → Prop}
variable {nm q : Str} {N S : Addr} {bs bm : List Value} {hdct : Bool} {sn : List Str} {sub : List Value} {ab : Bool} {col : Option Bool} {dd : Option Addr} {k0 k1 k2 k3 k5 : Option Value} {B newId initId : String}
theorem init_led {rest : List Value} (F : Fr h₀ L s.heap m) (X₀ : K.In h₀) (N' : News h₀ L s.heap ((e, excO C t0) :: post)) (hp : ∀ p ∈ post, p.1 ≠ e) (FB : ExcBaseFacts B newId initId bm) (hC : K.lookup C = some (excClassObj nm q C N bs (.ref S :: bm) hdct sn sub ab col dd k0 k1 k2 k3 k5 newId))
    (hz : rest.length ≤ sizeLine)
    (h : ∀ t h', Fr h₀ L h' m → News h₀ L h' ((t, tupO rest) :: (e, excO C t) :: post) → @LT.lt Nat _ e t → Q .none { s with heap := h' }) :
    wpAny (model prog w) A (call (.builtin initId) (.ref e :: rest)) Q E s := by
  obtain ⟨hh, g, d, t, os⟩ := s
  have X := X₀.keeps F.keep
  have he := (N' _ (List.mem_cons_self ..)).1
  refine exc_initI FB (X _ _ hC) he hz ?_
  have N1 := N'.push F (tupO rest)
  have F1 := F.push (tupO rest)
  have hne : hh.objs.size ≠ e := fun z => by have := Heap.lt_size he; rw [z] at this; exact Nat.lt_irrefl _ this
  obtain ⟨U1, U2⟩ := news_upd (pre := [(hh.objs.size, tupO rest)]) (post := post) (f := Obj.mapFields (·.setIfInBounds 0 (.ref hh.objs.size))) (o' := excO C hh.objs.size) F1 N1 (fun p hp => by rw [List.mem_singleton.mp hp]; exact hne) hp rfl rfl
  exact h _ _ U1 U2 (Heap.lt_size he)
theorem typeOf_Exception : typeOf (.type "Exception") = pure (.type "type") := by kernel_rfl
end
theorem lines57 : True := by
  (k_with "getMethod type:Exception" => (k_here; refine' method_type ?z81F ?z81X ?z81m (by decide +kernel) ?z81e ?z81h ?_; (case z81F => k_asm); (case z81X => k_asm); (case z81m => exact typeOf_Exception); (case z81e => k_dflt k_is); (case z81h => k_handed)))
  (k_with "call builtin:Exception.__init__" => (k_here; k_dflt (refine' init_led ?z82k1 ?z82k2 ?z82k3 ?z82k4 ?z82k5 ?z82k6 ?z82k7 ?_; (case z82k1 => k_asm); (case z82k2 => k_asm); (case z82k3 => k_asm); (case z82k4 => k_extra "m_off"); (case z82k5 => exact PySem.F.excBase_Exception); (case z82k6 => k_is); (case z82k7 => exact Nat.le_of_ble_eq_true rfl)); intro t' h' F' N' n'))
  (k_with "setAttr ref" => (k_here; k_dflt (refine' set_exc1 ?z83k1 ?z83k2 ?z83k3 ?z83k4 ?z83k5 ?z83k6 ?z83k7 ?z83k8 ?_; (case z83k1 => k_asm); (case z83k2 => k_asm); (case z83k3 => assumption); (case z83k4 => exact Nat.ne_of_gt (by assumption)); (case z83k5 => k_extra "m_off"); (case z83k6 => k_is); (case z83k7 => k_is); (case z83k8 => k_is)); intro D' od' h' tk' F' N'))
  (k_with "call ref" => (k_here; (with_reducible show wpAny _ _ (call (Value.ref 44) [Value.str _ _]) _ _ _); k_dflt (refine' call_excI ?z84k1 ?z84k2 ?z84k3 ?z84k4 ?z84k5 ?z84k6 ?z84k7 ?z84k8 ?_; (case z84k1 => k_asm); (case z84k2 => k_asm); (case z84k3 => k_asm); (case z84k4 => exact PySem.F.excBase_Exception); (case z84k5 => k_is); (case z84k6 => k_is); (case z84k7 => k_is); (case z84k8 => decide); intro x' d' h' F' N' l1 l2; (try k_lt l1); (try k_lt2 l2); (try k_sweep); k_enter)))
  trivial
theorem allLt_mono {a b : Addr} (hab : @LT.lt Nat _ a b) : ∀ {l : List (Addr × Obj)}, AllLt a l → AllLt b l
  | [], _ => trivial
  | _ :: _, ⟨h1, h2⟩ => ⟨Nat.lt_trans h1 hab, allLt_mono hab h2⟩
theorem allLt_of {a : Addr} : ∀ {l : List (Addr × Obj)}, (∀ p ∈ l, p.1 < a) → AllLt a l
  | [], _ => trivial
  | _ :: _, h => ⟨h _ (List.mem_cons_self ..), allLt_of fun p hp => h p (List.mem_cons_of_mem _ hp)⟩
abbrev RSz (msg : Str) (mt : Tok) (news : List (Addr × Obj)) : Value → List (Addr × Obj) → Prop := fun v news' => ∃ (e t D t0 : Addr) (od : Obj), v = .ref e ∧ (AllLt t0 news ∧ @LT.lt Nat _ t0 e ∧ @LT.lt Nat _ e t) ∧
  news' = (D, od) :: (t, tupO [.str msg mt]) :: (e, excD 44 t D) :: (t0, tupO [.str msg mt]) :: news
theorem rsz_mk {msg : Str} {mt : Tok} {news : List (Addr × Obj)} {e t D t0 : Addr} {od : Obj} (a : AllLt t0 news) (b : @LT.lt Nat _ t0 e) (c : @LT.lt Nat _ e t) : RSz msg mt news (.ref e) ((D, od) :: (t, tupO [.str msg mt]) :: (e, excD 44 t D) :: (t0, tupO [.str msg mt]) :: news) := ⟨e, t, D, t0, od, rfl, ⟨a, b, c⟩, rfl⟩
set_option maxHeartbeats 2000000 in
theorem szE_c (w : World) (mean : ExcName → Option Value) (mg mb : Str → Option Value) (msg : Str) (mt : Tok) (news : List (Addr × Obj)) :
   Ctr w mean mg mb 4 44 [.str msg mt] news (RSz msg mt news) := by
  k_extra "m_fill"
  unfold Ctr
  intro dp un gd cn cs a ccd cl outer A₀ base h₀ L m s Q E B F X N T hk hdp hun hret
  k_here
  (with_reducible show wpAny _ _ (call (Value.ref 44) [Value.str _ _]) _ _ _)
  refine' call_excI ?k1 ?k2 ?k3 ?k4 ?k5 ?k6 ?k7 ?k8 ?_
  (case k1 => k_asm)
  (case k2 => k_asm)
  (case k3 => k_asm)
  (case k4 => exact PySem.F.excBase_Exception)
  (case k5 => k_dflt k_is)
  (case k6 => k_is)
  (case k7 => k_is)
  (case k8 => exact Nat.le_of_ble_eq_true rfl)
  intro x' d' h' F' N' l1 l2
  (try k_lt l1); (try k_lt2 l2); (try k_sweep)
  have l3 : AllLt x' ((d', tupO [Value.str msg mt]) :: news) := ⟨l2, allLt_mono l2 (allLt_of l1)⟩
  have l4 : AllLt d' news := allLt_of l1
  k_dflt cell_enter
  k_steps
  refine' hret _ _ _ _ (rsz_mk ?a ?b ?c) ?F ?N
  (case F => assumption)
  (case N => assumption)
  (case a => exact l4)
  (case b => assumption)
  (case c => assumption)
-- RaiseW
theorem lines58 : True := by
  w_top off
  trivial
section
variable {M : Model} {A : Around} {E : Value → Shared → Prop} {s s' : Shared} {base g h₀ : Heap} {K : Frag} {outer : List Env} {L a e t D t0 C S : Addr} {m : Str → Option Value} {name : Str} {scope : Scope} {cd : Value} {Q : Unit → Shared → Prop} {rest news : List (Addr × Obj)} {od o0 : Obj}
variable {nm q : Str} {N : Addr} {bs bm : List Value} {hdct : Bool} {sn : List Str} {sub : List Value} {ab : Bool} {col : Option Bool} {dd : Option Addr} {k0 k1 k2 k3 k5 : Option Value} {newId : String}
theorem raiseP_mk (F : Fr h₀ L s.heap m) (X₀ : K.In h₀) (N' : News h₀ L s.heap ((D, od) :: (t, tupO vs) :: (e, excD C t D) :: news))
    (hC : K.lookup C = some (excClassObj nm q C N bs (.ref S :: bm) hdct sn sub ab col dd k0 k1 k2 k3 k5 newId)) (hb : bm.contains (.type "BaseException") = true) (hE : E (.ref e) s) : RaiseP C E (.ref e) s :=
  ⟨e, t, N, S, nm, q, bs, bm, hdct, sn, sub, ab, col, dd, k0, k1, k2, k3, k5, newId, _, _, rfl, F.keep _ _ (X₀ _ _ hC), hb, (N' (e, excD C t D) (by simp)).1, hE⟩
end
-- Rs
theorem lines59 : True := by
  w_top off
  trivial
section
variable {M : Model} {A : Around} {E : Value → Shared → Prop} {s' : Shared} {base g : Heap} {outer : List Env} {L e t t0 D C : Addr} {m : Str → Option Value} {env : Env} {Q : Unit → Shared → Prop} {news all rest : List (Addr × Obj)} {od o0 : Obj}
theorem kts_memX {b : Addr} (hf : env.frame = some L) (hm : b ∈ (env :: outer).filterMap (·.frame)) : b = L ∨ b ∈ outer.filterMap (·.frame) := by
  obtain ⟨ev, he, hf'⟩ := List.mem_filterMap.mp hm
  rcases List.mem_cons.mp he with rfl | he
  · exact .inl (Option.some.inj (hf'.symm.trans hf))
  · exact .inr (List.mem_filterMap.mpr ⟨ev, he, hf'⟩)
theorem leave_ownS {cls : Value} {vs : List Value} {d : Option Addr} {sl : Array (Option Value)} (K : Below A base outer g) (F : Fr g L s'.heap m) (N : News g L s'.heap all)
    (he : (e, (⟨cls, d, .fields #[.ref t, .none, .none, .none, .bool false, .none], sl⟩ : Obj)) ∈ all) (ht : (t, tupO vs) ∈ all)
    (hn : ∀ p ∈ news, p ∈ all ∧ p.1 ≠ e ∧ p.1 ≠ t)
    (hQ : ∀ h', RaisedS base g outer e cls t vs news h' → RaisedK base outer e cls t vs news h' → g.UpToSlots h' → Q () { s' with heap := h' }) (hf : env.frame = some L) (hk : env.scope.kind = .function) :
    wpAny M (A.deeper env) (leaving env (.ref e)) Q E s' := by
  have K' := pushX K F hf hk
  have hE := N _ he
  have hT := N _ ht
  have hin : ∀ ev ∈ (env :: outer), ∀ b, ev.frame = some b → b ∈ (e :: t :: (env :: outer).filterMap (·.frame)) := fun ev he b hb => .tail _ (.tail _ (List.mem_filterMap.mpr ⟨ev, he, hb⟩))
  have st : base.StaysIn (hideAll s'.heap (e :: t :: (env :: outer).filterMap (·.frame))) := fun b o q => hideAll_get _ (K'.stays b o q) fun hm => by
    rcases List.mem_cons.mp hm with z | hm
    · rw [z, fresh_of_stays K.stays hE.2.2] at q; cases q
    rcases List.mem_cons.mp hm with z | hm
    · rw [z, fresh_of_stays K.stays hT.2.2] at q; cases q
    rw [(K'.frames.mem hm).1] at q; cases q
  have sg : ∀ b o, g.get? b = some o → b ∉ outer.filterMap (·.frame) → (hideAll s'.heap (e :: t :: (env :: outer).filterMap (·.frame))).get? b = some o := fun b o q nm => hideAll_get _ (F.keep b o q) fun hm => by
    rcases List.mem_cons.mp hm with z | hm
    · rw [z, hE.2.2] at q; cases q
    rcases List.mem_cons.mp hm with z | hm
    · rw [z, hT.2.2] at q; cases q
    rcases kts_memX hf hm with z | z
    · rw [z, kts_self F] at q; cases q
    · exact nm z
  have hl : ∀ q ∈ news, (hideAll s'.heap (e :: t :: (env :: outer).filterMap (·.frame))).get? q.1 = some q.2 ∧ g.get? q.1 = none ∧ base.get? q.1 = none := fun q hq => by
    obtain ⟨hq, z1, z2⟩ := hn q hq
    refine ⟨hideAll_get _ (N q hq).1 fun hm => ?_, (N q hq).2.2, fresh_of_stays K.stays (N q hq).2.2⟩
    rcases List.mem_cons.mp hm with z | hm
    · exact z1 z
    rcases List.mem_cons.mp hm with z | hm
    · exact z2 z
    rcases kts_memX hf hm with z | z
    · exact (N q hq).2.1 z
    · obtain ⟨o, ho, _⟩ := (K.frames.mem z).2
      rw [(N q hq).2.2] at ho; cases ho
  have hen : (hideAll s'.heap (e :: t :: (env :: outer).filterMap (·.frame))).get? e = none := hideAll_none _ (List.mem_cons_self ..)
  have htn : (hideAll s'.heap (e :: t :: (env :: outer).filterMap (·.frame))).get? t = none := hideAll_none _ (List.mem_cons_of_mem _ (List.mem_cons_self ..))
  refine wpAny_leaving_firstW (a0 := .ref t) K'.stack (funFrames_hide K'.frames hin) hf hE.1 (fun b o q => of_hideAll _ q) hen rfl rfl rfl fun h' hL => ?_
  obtain ⟨k1, ⟨_, _, k2⟩, k3, k4⟩ := hL
  have R : RaisedS base g outer e cls t vs news h' := ⟨⟨_, st, sg, hl, ⟨k1, hen, k2, k3⟩, htn⟩, Heap.TupAt.of_slots ⟨_, _, hT.1, rfl, rfl⟩ k4⟩
  exact hQ h' R R.toK ((Heap.UpToSlots.of_keeps F.keep).trans k4)
theorem leave_own4S {vs : List Value} (K : Below A base outer g) (F : Fr g L s'.heap m) (N : News g L s'.heap ((D, od) :: (t, tupO vs) :: (e, excD C t D) :: (t0, o0) :: rest)) (a0 : AllLt t0 rest) (l1 : @LT.lt Nat _ t0 e) (l2 : @LT.lt Nat _ e t)
    (hQ : ∀ h', RaisedS base g outer e (.ref C) t vs rest h' → RaisedK base outer e (.ref C) t vs rest h' → g.UpToSlots h' → Q () { s' with heap := h' }) (hf : env.frame = some L) (hk : env.scope.kind = .function) :
    wpAny M (A.deeper env) (leaving env (.ref e)) Q E s' :=
  leave_ownS K F N (List.mem_cons_of_mem _ (List.mem_cons_of_mem _ (List.mem_cons_self ..))) (List.mem_cons_of_mem _ (List.mem_cons_self ..))
    (fun p hp => by
      have z := ktn_ltOf a0 p hp
      exact ⟨List.mem_cons_of_mem _ (List.mem_cons_of_mem _ (List.mem_cons_of_mem _ (List.mem_cons_of_mem _ hp))), Nat.ne_of_lt (Nat.lt_trans z l1), Nat.ne_of_lt (Nat.lt_trans (Nat.lt_trans z l1) l2)⟩) hQ hf hk
end
theorem raisedS_sub {base G : Heap} {l : List Env} {e t : Addr} {cls : Value} {vs : List Value} {news news' : List (Addr × Obj)} {h : Heap} (R : RaisedS base G l e cls t vs news h) (hs : ∀ p ∈ news', p ∈ news) : RaisedS base G l e cls t vs news' h := by
  obtain ⟨⟨B, b1, b2, b3, b4⟩, b5⟩ := R
  exact ⟨⟨B, b1, b2, fun q hq => b3 q (hs q hq), b4⟩, b5⟩
/-- a call that raises SizeError, whatever frames stand below -/
def CtrX (w : World) (mean : ExcName → Option Value) (mg mb : Str → Option Value) (dd : Nat) (f : Addr) (vs : List Value) (news : List (Addr × Obj)) : Prop :=
  ∀ (dp un : Nat) (gd : Option (List Code)) (cn : Str) (cs : Scope) (a : Addr) (ccd : Value) (outer : List Env) (A₀ : Around) (base h₀ : Heap) (L : Addr) (m : Str → Option Value) (s : Shared) (Q E : Value → Shared → Prop),
   Below A₀ base outer h₀ → Fr h₀ L s.heap m → (Mine.hd.heap_1 w.params).In h₀ → News h₀ L s.heap news → Top Mine.view (looseW Mine.view [Str.ofString "Bpdu"]) mean mg mb h₀ → cs.kind = .function →
   dp + dd < recursionLimit → un + 8 * dd < cLine →
   (∀ (e t : Addr) (ms : List Value) (g₂ h' : Heap) (tk' : Nat), Fr h₀ L g₂ m → RaisedS base g₂ (envOf cn cs L a ccd :: outer) e (.ref 44) t ms news h' → g₂.UpToSlots h' → E (.ref e) { s with heap := h', toks := tk' }) →
   wpAny (model (PySem.Challenge.rw_xm0978_01.prog) w) (ktrTop dp un gd cn cs L a ccd [] outer) (call (.ref f) vs) Q E s
section
variable {w : World} {mean : ExcName → Option Value} {mg mb : Str → Option Value} {dd : Nat} {f : Addr} {vs : List Value} {news : List (Addr × Obj)}
  {dp un : Nat} {gd : Option (List Code)} {cn : Str} {cs : Scope} {a : Addr} {ccd : Value} {outer : List Env} {A₀ : Around} {base h₀ : Heap} {L : Addr} {m : Str → Option Value} {s : Shared} {Q E : Value → Shared → Prop}
theorem CtrX.use (B : Below A₀ base outer h₀) (F : Fr h₀ L s.heap m) (X : (Mine.hd.heap_1 w.params).In h₀) (N : News h₀ L s.heap news) (T : Top Mine.view (looseW Mine.view [Str.ofString "Bpdu"]) mean mg mb h₀) (hk : cs.kind = .function)
  (hd : dp + dd < recursionLimit) (hu : un + 8 * dd < cLine) (C : CtrX w mean mg mb dd f vs news)
  (ret : ∀ (e t : Addr) (ms : List Value) (g₂ h' : Heap) (tk' : Nat), Fr h₀ L g₂ m → RaisedS base g₂ (envOf cn cs L a ccd :: outer) e (.ref 44) t ms news h' → g₂.UpToSlots h' → E (.ref e) { s with heap := h', toks := tk' }) :
  wpAny (model (PySem.Challenge.rw_xm0978_01.prog) w) (ktrTop dp un gd cn cs L a ccd [] outer) (call (.ref f) vs) Q E s :=
  C dp un gd cn cs a ccd outer A₀ base h₀ L m s Q E B F X N T hk hd hu ret
end
/-- a call whose def catches: the ground below may be turned in its frames' slots -/
def CtrS (w : World) (mean : ExcName → Option Value) (mg mb : Str → Option Value) (dd : Nat) (f : Addr) (vs : List Value) (news : List (Addr × Obj)) (R : Value → List (Addr × Obj) → Prop) : Prop :=
  ∀ (dp un : Nat) (gd : Option (List Code)) (cn : Str) (cs : Scope) (a : Addr) (ccd : Value) (outer : List Env) (A₀ : Around) (base g₀ h₀ : Heap) (L : Addr) (m : Str → Option Value) (s : Shared) (Q E : Value → Shared → Prop),
   Below A₀ base outer h₀ → Fr h₀ L s.heap m → (Mine.hd.heap_1 w.params).In h₀ → News h₀ L s.heap news → Top Mine.view (looseW Mine.view [Str.ofString "Bpdu"]) mean mg mb h₀ →
   (Mine.hd.heap_1 w.params).In base → Top Mine.view (looseW Mine.view [Str.ofString "Bpdu"]) mean mg mb base → KtsDicts (outer.filterMap (·.frame)) h₀ → KtsTurn (outer.filterMap (·.frame)) g₀ h₀ → cs.kind = .function →
   dp + dd < recursionLimit → un + 8 * dd < cLine →
   (∀ (v : Value) (news' : List (Addr × Obj)) (h₀' h' : Heap) (tk' : Nat), R v news' → KtsTurn (outer.filterMap (·.frame)) g₀ h₀' → Fr h₀' L h' m → News h₀' L h' news' → Below A₀ base outer h₀' → (Mine.hd.heap_1 w.params).In h₀' → Top Mine.view (looseW Mine.view [Str.ofString "Bpdu"]) mean mg mb h₀' → KtsDicts (outer.filterMap (·.frame)) h₀' → Q v { s with heap := h', toks := tk' }) →
   wpAny (model (PySem.Challenge.rw_xm0978_01.prog) w) (ktrTop dp un gd cn cs L a ccd [] outer) (call (.ref f) vs) Q E s
theorem turn0_get {g g' : Heap} (T : KtsTurn [] g g') {b : Addr} {o : Obj} (e : g.get? b = some o) : g'.get? b = some o := T.other b o e (fun m => nomatch m)
theorem fr_turn0 {g g' h : Heap} {L : Addr} {m : Str → Option Value} (T : KtsTurn [] g g') (F : Fr g' L h m) : Fr g L h m := ⟨F.ns, fun b o e => F.keep b o (turn0_get T e), by rw [← T.size]; exact F.above⟩
theorem news_turn0 {g g' h : Heap} {L : Addr} {news : List (Addr × Obj)} (T : KtsTurn [] g g') (N : News g' L h news) : News g L h news := fun p hp => ⟨(N p hp).1, (N p hp).2.1, by
  cases q : g.get? p.1 with
  | none => rfl
  | some o => have := turn0_get T q; rw [(N p hp).2.2] at this; cases this⟩
section
variable {w : World} {mean : ExcName → Option Value} {mg mb : Str → Option Value} {dd : Nat} {f : Addr} {vs : List Value} {news : List (Addr × Obj)} {R : Value → List (Addr × Obj) → Prop}
  {dp un : Nat} {gd : Option (List Code)} {cn : Str} {cs : Scope} {a : Addr} {ccd : Value} {outer : List Env} {A₀ : Around} {base g₀ h₀ : Heap} {L : Addr} {m : Str → Option Value} {s : Shared} {Q E : Value → Shared → Prop}
theorem CtrS.use0 (B : Below A₀ base [] h₀) (F : Fr h₀ L s.heap m) (X : (Mine.hd.heap_1 w.params).In h₀) (N : News h₀ L s.heap news) (T : Top Mine.view (looseW Mine.view [Str.ofString "Bpdu"]) mean mg mb h₀)
  (XB : (Mine.hd.heap_1 w.params).In base) (TB : Top Mine.view (looseW Mine.view [Str.ofString "Bpdu"]) mean mg mb base) (hk : cs.kind = .function)
  (hd : dp + dd < recursionLimit) (hu : un + 8 * dd < cLine) (C : CtrS w mean mg mb dd f vs news R)
  (ret : ∀ (v : Value) (news' : List (Addr × Obj)) (h' : Heap) (tk' : Nat), R v news' → Fr h₀ L h' m → News h₀ L h' news' → Q v { s with heap := h', toks := tk' }) :
  wpAny (model (PySem.Challenge.rw_xm0978_01.prog) w) (ktrTop dp un gd cn cs L a ccd [] []) (call (.ref f) vs) Q E s :=
  C dp un gd cn cs a ccd [] A₀ base h₀ h₀ L m s Q E B F X N T XB TB ktsDicts_nil .refl hk hd hu fun v n h₀' h' t r T' F' N' _ _ _ _ => ret v n h' t r (fr_turn0 T' F') (news_turn0 T' N')
theorem CtrS.use (B : Below A₀ base outer h₀) (F : Fr h₀ L s.heap m) (X : (Mine.hd.heap_1 w.params).In h₀) (N : News h₀ L s.heap news) (T : Top Mine.view (looseW Mine.view [Str.ofString "Bpdu"]) mean mg mb h₀)
  (XB : (Mine.hd.heap_1 w.params).In base) (TB : Top Mine.view (looseW Mine.view [Str.ofString "Bpdu"]) mean mg mb base) (D : KtsDicts (outer.filterMap (·.frame)) h₀) (T0 : KtsTurn (outer.filterMap (·.frame)) g₀ h₀) (hk : cs.kind = .function)
  (hd : dp + dd < recursionLimit) (hu : un + 8 * dd < cLine) (C : CtrS w mean mg mb dd f vs news R)
  (ret : ∀ (v : Value) (news' : List (Addr × Obj)) (h₀' h' : Heap) (tk' : Nat), R v news' → KtsTurn (outer.filterMap (·.frame)) g₀ h₀' → Fr h₀' L h' m → News h₀' L h' news' → Below A₀ base outer h₀' → (Mine.hd.heap_1 w.params).In h₀' → Top Mine.view (looseW Mine.view [Str.ofString "Bpdu"]) mean mg mb h₀' → KtsDicts (outer.filterMap (·.frame)) h₀' → Q v { s with heap := h', toks := tk' }) :
  wpAny (model (PySem.Challenge.rw_xm0978_01.prog) w) (ktrTop dp un gd cn cs L a ccd [] outer) (call (.ref f) vs) Q E s :=
  C dp un gd cn cs a ccd outer A₀ base g₀ h₀ L m s Q E B F X N T XB TB D T0 hk hd hu ret
end
-- RsL
theorem lines60 : True := by
  w_top off
  trivial
section
variable {w : World} {mean : ExcName → Option Value} {mg mb : Str → Option Value} {dp un : Nat} {gd : Option (List Code)} {cn : Str} {cs : Scope} {a : Addr} {ccd : Value} {cl : List (Str × Addr)} {outer : List Env} {A₀ : Around} {base h₀ : Heap} {L : Addr} {m : Str → Option Value} {s : Shared} {Q E : Value → Shared → Prop} {news : List (Addr × Obj)} {msg : Str} {mt : Tok}
theorem szE_use (B : Below A₀ base outer h₀) (F : Fr h₀ L s.heap m) (X : (Mine.hd.heap_1 w.params).In h₀) (N : News h₀ L s.heap news) (T : Top Mine.view (looseW Mine.view [Str.ofString "Bpdu"]) mean mg mb h₀) (hk : cs.kind = .function)
  (hd : dp + 4 < recursionLimit) (hu : un + 8 * 4 < cLine)
  (ret : ∀ (e t D t0 : Addr) (od : Obj) (hp : Heap) (tk' : Nat), AllLt t0 news → @LT.lt Nat _ t0 e → @LT.lt Nat _ e t → Fr h₀ L hp m → News h₀ L hp ((D, od) :: (t, tupO [.str msg mt]) :: (e, excD 44 t D) :: (t0, tupO [.str msg mt]) :: news) → Q (.ref e) { s with heap := hp, toks := tk' }) :
  wpAny (model (PySem.Challenge.rw_xm0978_01.prog) w) (ktrTop dp un gd cn cs L a ccd cl outer) (call (.ref 44) [.str msg mt]) Q E s := by
  refine Ctr.use (szE_c _ _ _ _ msg mt news) B F X N T hk hd hu ?_
  rintro _ _ hp tk' ⟨e, t, D, t0, od, rfl, ⟨a0, l1, l2⟩, rfl⟩ F' N'
  exact ret e t D t0 od hp tk' a0 l1 l2 F' N'
end
theorem lines61 : True := by
  (k_with "exec Raise some none" => first | (exfalso; omega) | (k_here; (with_reducible show wpAny _ _ (exec (Stmt.Raise (some (PySem.Expr.Call (PySem.Expr.Name ("SizeError" : Str) _) (_ :: _) [] _)) none _) _) _ _ _); k_dflt (refine' raise_I (C := 44) ?z85hh ?_; (case z85hh => first | rfl | assumption)); (try dsimp only)))
  (k_with "RaiseP" => (k_dflt (refine' raiseP_mk ?z86F ?z86X ?z86N ?z86hC ?z86hb ?_; (case z86F => assumption); (case z86X => k_asm); (case z86N => assumption); (case z86hC => k_is); (case z86hb => rfl)); (try dsimp only)))
  (k_with "call ref" => (k_here; (with_reducible show wpAny _ _ (call (Value.ref 44) [Value.str _ _]) _ _ _); k_dflt (refine' szE_use ?z87k1 ?z87k2 ?z87k3 ?z87k4 ?z87k5 ?z87k6 ?z87k7 ?z87k8 ?_; (case z87k4 => k_asm); ((case z87k1 => k_asm); (case z87k2 => k_asm); (case z87k3 => k_asm); (try (case z87k4 => k_asm)); (case z87k5 => k_asm); (case z87k6 => first | exact rfl | assumption); (case z87k7 => ktr_room); (case z87k8 => ktr_units))); intro e' t' D' t0' od' h' tk' l1 l2 l3 F' N'; (try dsimp only)))
  (k_with "leaving ref" => (k_here; (refine' leave_own4S ?z88K ?z88F ?z88N ?z88a0 ?z88l1 ?z88l2 ?_ ?z88hf ?z88hk; (case z88K => assumption); (case z88F => assumption); (case z88N => assumption); (case z88a0 => assumption); (case z88l1 => assumption); (case z88l2 => assumption); (case z88hf => rfl); (case z88hk => rfl)); intro h' S' R' U'; (try dsimp only at S' R' U' ⊢)))
  (k_with "leaving ref" => (k_here; (refine' leave_onS ?z89k1 ?z89k2 ?z89k3 ?z89k4 ?_; (case z89k3 => assumption); (case z89k2 => assumption); (case z89k1 => assumption); (case z89k4 => assumption); k_whole; intro h' S' R' U'; (try dsimp only at S' R' U' ⊢))))
  trivial
set_option maxHeartbeats 1000000 in
theorem no2X_c (w : World) (mean : ExcName → Option Value) (mg mb : Str → Option Value) (x : Int) (t u : Tok) (news : List (Addr × Obj)) (hx : x < 0 ∨ 65536 ≤ x) :
   CtrX w mean mg mb 5 128 [.int x t, .int 2 u] news := by
  k_extra "m_fill"
  unfold CtrX
  intro dp un gd cn cs a ccd outer A₀ base h₀ L m s Q E B F X N T hk hdp hun hret
  refine wpAny_call ?_
  k_dflt k_extra "m_enterC"
  k_steps
  all_goals (refine' hret _ _ _ _ _ _ ?F (raisedS_sub ?S ?sub) ?U; (case S => assumption); (case F => assumption); (case sub => k_extra "m_sub"); (case U => assumption))
set_option maxHeartbeats 1000000 in
theorem no4X_c (w : World) (mean : ExcName → Option Value) (mg mb : Str → Option Value) (x : Int) (t u : Tok) (news : List (Addr × Obj)) (hx : x < 0 ∨ 4294967296 ≤ x) :
   CtrX w mean mg mb 5 128 [.int x t, .int 4 u] news := by
  k_extra "m_fill"
  unfold CtrX
  intro dp un gd cn cs a ccd outer A₀ base h₀ L m s Q E B F X N T hk hdp hun hret
  refine wpAny_call ?_
  k_dflt k_extra "m_enterC"
  k_steps
  all_goals (refine' hret _ _ _ _ _ _ ?F (raisedS_sub ?S ?sub) ?U; (case S => assumption); (case F => assumption); (case sub => k_extra "m_sub"); (case U => assumption))
set_option maxHeartbeats 1000000 in
theorem no6X_c (w : World) (mean : ExcName → Option Value) (mg mb : Str → Option Value) (x : Int) (t u : Tok) (news : List (Addr × Obj)) (hx : x < 0 ∨ 281474976710656 ≤ x) :
   CtrX w mean mg mb 5 128 [.int x t, .int 6 u] news := by
  k_extra "m_fill"
  unfold CtrX
  intro dp un gd cn cs a ccd outer A₀ base h₀ L m s Q E B F X N T hk hdp hun hret
  refine wpAny_call ?_
  k_dflt k_extra "m_enterC"
  k_steps
  all_goals (refine' hret _ _ _ _ _ _ ?F (raisedS_sub ?S ?sub) ?U; (case S => assumption); (case F => assumption); (case sub => k_extra "m_sub"); (case U => assumption))
-- VecX
theorem lines62 : True := by
  w_top off
  (k_with "call ref" => (k_here; (with_reducible show wpAny _ _ (call (Value.ref 128) [Value.int _ _, Value.int _ _]) _ _ _); k_dflt (first
  | ((with_reducible show wpAny _ _ (call (Value.ref 128) [Value.int _ _, Value.int 2 _]) _ _ _); refine' CtrX.use ?z90k1 ?z90k2 ?z90k3 ?z90k4 ?z90k5 ?z90k6 ?z90k7 ?z90k8 (no2X_c _ _ _ _ _ _ _ _ ?z90hx) ?_; (case z90hx => first | assumption | omega))
  | ((with_reducible show wpAny _ _ (call (Value.ref 128) [Value.int _ _, Value.int 4 _]) _ _ _); refine' CtrX.use ?z90k1 ?z90k2 ?z90k3 ?z90k4 ?z90k5 ?z90k6 ?z90k7 ?z90k8 (no4X_c _ _ _ _ _ _ _ _ ?z90hx) ?_; (case z90hx => first | assumption | omega))
  | ((with_reducible show wpAny _ _ (call (Value.ref 128) [Value.int _ _, Value.int 6 _]) _ _ _); refine' CtrX.use ?z90k1 ?z90k2 ?z90k3 ?z90k4 ?z90k5 ?z90k6 ?z90k7 ?z90k8 (no6X_c _ _ _ _ _ _ _ _ ?z90hx) ?_; (case z90hx => first | assumption | omega))); k_dflt ((case z90k4 => k_asm); ((case z90k1 => k_asm); (case z90k2 => k_asm); (case z90k3 => k_asm); (try (case z90k4 => k_asm)); (case z90k5 => k_asm); (case z90k6 => first | exact rfl | assumption); (case z90k7 => ktr_room); (case z90k8 => ktr_units))); intro e' t' ms' g₂' h' tk' F' S' U'; (try dsimp only)))
  trivial
def BadBr (x y : Int) : Prop := (x < 0 ∨ 65536 ≤ x) ∨ (0 ≤ x ∧ x ≤ 65535 ∧ (y < 0 ∨ 281474976710656 ≤ y))
def BadPo (x y : Int) : Prop := x % 16 ≠ 0 ∨ x < 0 ∨ 240 < x ∨ y < 0 ∨ 4096 ≤ y
set_option maxHeartbeats 1000000 in
theorem brX_c (w : World) (mean : ExcName → Option Value) (mg mb : Str → Option Value) (tb : Addr) (x y : Int) (tx ty : Tok) (n : Nat) (news : List (Addr × Obj))
   (hm : (tb, tupOf [.int x tx, .int y ty] n) ∈ news) (hb : BadBr x y) :
   CtrX w mean mg mb 6 142 [.ref tb] news := by
  k_extra "m_fill"
  unfold CtrX
  intro dp un gd cn cs a ccd outer A₀ base h₀ L m s Q E B F X N T hk hdp hun hret
  refine wpAny_call ?_
  rcases hb with hb | ⟨h0, h1, hb⟩
  all_goals k_dflt cell_enter
  all_goals k_steps
  all_goals (refine' hret _ _ _ _ _ _ ?F (raisedS_sub ?S ?sub) ?U; (case S => assumption); (case F => assumption); (case sub => k_extra "m_sub"); (case U => assumption))
set_option maxHeartbeats 1000000 in
theorem poX_c (w : World) (mean : ExcName → Option Value) (mg mb : Str → Option Value) (tb : Addr) (x y : Int) (tx ty : Tok) (n : Nat) (news : List (Addr × Obj))
   (hm : (tb, tupOf [.int x tx, .int y ty] n) ∈ news) (hb : BadPo x y) :
   CtrX w mean mg mb 6 149 [.ref tb] news := by
  k_extra "m_fill"
  unfold CtrX
  unfold BadPo at hb
  intro dp un gd cn cs a ccd outer A₀ base h₀ L m s Q E B F X N T hk hdp hun hret
  refine wpAny_call ?_
  k_dflt cell_enter
  k_steps
  all_goals (refine' hret _ _ _ _ _ _ ?F (raisedS_sub ?S ?sub) ?U; (case S => assumption); (case F => assumption); (case sub => k_extra "m_sub"); (case U => assumption))
-- VecY
theorem lines63 : True := by
  w_top off
  (k_with "call ref" => (k_here; (with_reducible show wpAny _ _ (call (Value.ref 142) [Value.ref _]) _ _ _); k_dflt (refine' CtrX.use ?z91k1 ?z91k2 ?z91k3 ?z91k4 ?z91k5 ?z91k6 ?z91k7 ?z91k8 (brX_c _ _ _ _ _ _ _ _ _ _ _ ?z91m ?z91hb) ?_; (case z91k4 => k_asm); (case z91m => k_mem); (case z91hb => assumption); ((case z91k1 => k_asm); (case z91k2 => k_asm); (case z91k3 => k_asm); (try (case z91k4 => k_asm)); (case z91k5 => k_asm); (case z91k6 => first | exact rfl | assumption); (case z91k7 => ktr_room); (case z91k8 => ktr_units))); intro e' t' ms' g₂' h' tk' F' S' U'; (try dsimp only)))
  (k_with "call ref" => (k_here; (with_reducible show wpAny _ _ (call (Value.ref 149) [Value.ref _]) _ _ _); k_dflt (refine' CtrX.use ?z92k1 ?z92k2 ?z92k3 ?z92k4 ?z92k5 ?z92k6 ?z92k7 ?z92k8 (poX_c _ _ _ _ _ _ _ _ _ _ _ ?z92m ?z92hb) ?_; (case z92k4 => k_asm); (case z92m => k_mem); (case z92hb => assumption); ((case z92k1 => k_asm); (case z92k2 => k_asm); (case z92k3 => k_asm); (try (case z92k4 => k_asm)); (case z92k5 => k_asm); (case z92k6 => first | exact rfl | assumption); (case z92k7 => ktr_room); (case z92k8 => ktr_units))); intro e' t' ms' g₂' h' tk' F' S' U'; (try dsimp only)))
  trivial
def BadV (x1 y1 c x2 y2 pr pn : Int) : Prop := BadBr x1 y1 ∨ ((0 ≤ x1 ∧ x1 ≤ 65535 ∧ 0 ≤ y1 ∧ y1 ≤ 281474976710655) ∧ ((c < 0 ∨ 4294967296 ≤ c) ∨ ((0 ≤ c ∧ c ≤ 4294967295) ∧ (BadBr x2 y2 ∨ ((0 ≤ x2 ∧ x2 ≤ 65535 ∧ 0 ≤ y2 ∧ y2 ≤ 281474976710655) ∧ BadPo pr pn)))))
set_option maxHeartbeats 1000000 in
theorem vecX_c (w : World) (mean : ExcName → Option Value) (mg mb : Str → Option Value) (tv b1 b2 pp : Addr) (x1 y1 c x2 y2 pr pn : Int) (t1 t2 t3 t4 t5 t6 t7 : Tok) (n0 n1 n2 n3 : Nat) (news : List (Addr × Obj))
   (hv : (tv, tupOf [.ref b1, .int c t3, .ref b2, .ref pp] n0) ∈ news) (hm1 : (b1, tupOf [.int x1 t1, .int y1 t2] n1) ∈ news) (hm2 : (b2, tupOf [.int x2 t4, .int y2 t5] n2) ∈ news) (hm3 : (pp, tupOf [.int pr t6, .int pn t7] n3) ∈ news)
   (hb : BadV x1 y1 c x2 y2 pr pn) :
   CtrX w mean mg mb 7 156 [.ref tv] news := by
  k_extra "m_fill"
  unfold CtrX
  intro dp un gd cn cs a ccd outer A₀ base h₀ L m s Q E B F X N T hk hdp hun hret
  refine wpAny_call ?_
  rcases hb with hb | ⟨⟨g1, g2, g3, g4⟩, hb | ⟨⟨g5, g6⟩, hb | ⟨⟨g7, g8, g9, g10⟩, hb⟩⟩⟩
  all_goals k_dflt cell_enter
  all_goals k_steps
  all_goals (refine' hret _ _ _ _ _ _ ?F (raisedS_sub ?S ?sub) ?U; (case S => assumption); (case F => assumption); (case sub => k_extra "m_sub"); (case U => assumption))
theorem lines64 : True := by
  (k_with "call ref" => (k_here; (with_reducible show wpAny _ _ (call (Value.ref 156) [Value.ref _]) _ _ _); k_dflt (refine' CtrX.use ?z93k1 ?z93k2 ?z93k3 ?z93k4 ?z93k5 ?z93k6 ?z93k7 ?z93k8 (vecX_c _ _ _ _ _ _ _ _ _ _ _ _ _ _ _ _ _ _ _ _ _ _ _ _ _ _ _ ?z93v ?z93m1 ?z93m2 ?z93m3 ?z93hb) ?_; (case z93k4 => k_asm); (case z93hb => assumption); (case z93v => k_mem); (case z93m1 => k_mem); (case z93m2 => k_mem); (case z93m3 => k_mem); ((case z93k1 => k_asm); (case z93k2 => k_asm); (case z93k3 => k_asm); (try (case z93k4 => k_asm)); (case z93k5 => k_asm); (case z93k6 => first | exact rfl | assumption); (case z93k7 => ktr_room); (case z93k8 => ktr_units))); intro e' t' ms' g₂' h' tk' F' S' U'; (try dsimp only)))
  (k_with "m_enterS" => (refine' code_defS ?z94k1 ?z94k2 ?z94k3 ?z94k4 ?z94k5 ?z94XB ?z94TB ?z94D ?z94T0 ?z94kA ?z94k6 ?z94k7 ?z94k8 ?z94k9 ?z94kB ?_ ?z94cK ?z94c2 ?z94c3 ?z94c4 ?z94c5; (case z94kA => exact rfl); (case z94k2 => k_asm); (case z94k1 => k_asm); (case z94XB => assumption); (case z94TB => assumption); (case z94D => assumption); (case z94T0 => assumption); (case z94k3 => k_asm); (case z94k4 => k_asm); (case z94k5 => k_asm); (case z94k6 => k_is); (case z94k7 => k_is); (case z94k8 => ktr_room); (case z94k9 => exact BindsTo.of_eq rfl); (case z94kB => exact locs rfl); (case z94cK => first | assumption | exact rfl); (case z94c2 => exact rfl); (case z94c3 => exact rfl); (case z94c4 => exact rfl); (case z94c5 => decide); k_whole; intro g' L' h' FG' F' N' B' X' T' D'; (try dsimp only); (try k_lift B'); (try k_fold)))
  trivial
set_option maxHeartbeats 1000000 in
theorem vref_c (w : World) (mean : ExcName → Option Value) (mg mb : Str → Option Value) (tv b1 b2 pp : Addr) (x1 y1 c x2 y2 pr pn : Int) (t1 t2 t3 t4 t5 t6 t7 : Tok) (n0 n1 n2 n3 : Nat) (news : List (Addr × Obj))
   (hv : (tv, tupOf [.ref b1, .int c t3, .ref b2, .ref pp] n0) ∈ news) (hm1 : (b1, tupOf [.int x1 t1, .int y1 t2] n1) ∈ news) (hm2 : (b2, tupOf [.int x2 t4, .int y2 t5] n2) ∈ news) (hm3 : (pp, tupOf [.int pr t6, .int pn t7] n3) ∈ news)
   (hb : BadV x1 y1 c x2 y2 pr pn) :
   CtrS w mean mg mb 8 269 [.ref tv] news (fun v news' => v = .bool true ∧ news' = news) := by
  k_extra "m_fill"
  unfold CtrS
  intro dp un gd cn cs a ccd outer A₀ base g₀ h₀ L m s Q E B F X N T XB TB D T0 hk hdp hun hret
  refine wpAny_call ?_
  k_dflt k_extra "m_enterS"
  k_steps
  all_goals (refine' hret _ _ _ _ _ ⟨rfl, rfl⟩ ?T ?F ?N ?B ?X ?P ?D; (case T => assumption); (case F => assumption); (case N => exact cb_drop (by assumption) (by k_extra "m_sub")); (case B => assumption); (case X => assumption); (case P => assumption); (case D => assumption))
-- TimX
theorem lines65 : True := by
  w_top off
  trivial
def BadI (a : Int) : Prop := a < 0 ∨ 256 ≤ a
def OkI (a : Int) : Prop := 0 ≤ a ∧ a ≤ 255
def BadT (a0 a1 a2 a3 : Int) : Prop := BadI a0 ∨ (OkI a0 ∧ (BadI a1 ∨ (OkI a1 ∧ (BadI a2 ∨ (OkI a2 ∧ BadI a3)))))
set_option maxHeartbeats 2000000 in
theorem timX_c (w : World) (mean : ExcName → Option Value) (mg mb : Str → Option Value) (x dx : Addr) (a0 a1 a2 a3 : Int) (u0 u1 u2 u3 t0 t1 t2 t3 : Tok) (news : List (Addr × Obj))
   (hx : (x, instObj 83 dx) ∈ news) (hd : (dx, timD w.params a0 a1 a2 a3 u0 u1 u2 u3 t0 t1 t2 t3) ∈ news)
   (hb : BadT a0 a1 a2 a3) :
   CtrX w mean mg mb 6 163 [.ref x] news := by
  k_extra "m_fill"
  unfold CtrX
  intro dp un gd cn cs a ccd outer A₀ base h₀ L m s Q E B F X N T hk hdp hun hret
  refine wpAny_call ?_
  rcases hb with hb | ⟨⟨g1, g2⟩, hb | ⟨⟨g3, g4⟩, hb | ⟨⟨g5, g6⟩, hb⟩⟩⟩
  all_goals unfold BadI at hb
  all_goals k_dflt cell_enter
  all_goals k_steps
  all_goals (refine' hret _ _ _ _ _ _ ?F (raisedS_sub ?S ?sub) ?U; (case S => assumption); (case F => assumption); (case sub => k_extra "m_sub"); (case U => assumption))
-- TimY
theorem lines66 : True := by
  w_top off
  trivial
theorem CtrS.place {w : World} {mean : ExcName → Option Value} {mg mb : Str → Option Value} {dd : Nat} {f src : Addr} {o : Obj} {vs : List Value} {news : List (Addr × Obj)} {g : Obj → List (Addr × Obj)} {P : Value → List (Addr × Obj) → Obj → Prop}
   (U : UpdF src o news g)
   (h : ∀ rest, (∀ p ∈ rest, p.1 ≠ src) → (∀ p ∈ rest, p ∈ news) → (∀ p ∈ news, p = (src, o) ∨ p ∈ rest) → CtrS w mean mg mb dd f vs ((src, o) :: rest) (fun v news' => ∃ ex o', P v ex o' ∧ news' = ex ++ (src, o') :: rest)) :
   CtrS w mean mg mb dd f vs news (fun v news' => ∃ ex o', P v ex o' ∧ news' = ex ++ g o') := by
  obtain ⟨pre, post, e1, e2, h1, h2⟩ := U.split
  intro dp un gd cn cs a ccd outer A₀ base g₀ h₀ L m s Q E B F X N T XB TB D T0 hk hd hu hret
  subst e1
  refine h (pre ++ post) ?_ ?_ ?_ dp un gd cn cs a ccd outer A₀ base g₀ h₀ L m s Q E B F X ?_ T XB TB D T0 hk hd hu ?_
  · intro p hp; rcases List.mem_append.mp hp with hp | hp; exact h1 p hp; exact h2 p hp
  · intro p hp; rcases List.mem_append.mp hp with hp | hp
    · exact List.mem_append.mpr (.inl hp)
    · exact List.mem_append.mpr (.inr (.tail _ hp))
  · intro p hp; rcases List.mem_append.mp hp with hp | hp
    · exact .inr (List.mem_append.mpr (.inl hp))
    · rcases List.mem_cons.mp hp with hp | hp
      · exact .inl hp
      · exact .inr (List.mem_append.mpr (.inr hp))
  · intro p hp
    refine N p ?_
    rcases List.mem_cons.mp hp with rfl | hp
    · exact List.mem_append.mpr (.inr (.head _))
    · rcases List.mem_append.mp hp with hp | hp
      · exact List.mem_append.mpr (.inl hp)
      · exact List.mem_append.mpr (.inr (.tail _ hp))
  · rintro v news' h₀' h' tk' ⟨ex, o', hP, rfl⟩ T' F' N' B' X' P' D'
    refine hret v _ h₀' h' tk' ⟨ex, o', hP, rfl⟩ T' F' ?_ B' X' P' D'
    intro p hp
    refine N' p ?_
    rcases List.mem_append.mp hp with hp | hp
    · exact List.mem_append.mpr (.inl hp)
    · rw [e2] at hp
      refine List.mem_append.mpr (.inr ?_)
      rcases List.mem_append.mp hp with hp | hp
      · exact .tail _ (List.mem_append.mpr (.inl hp))
      · rcases List.mem_cons.mp hp with rfl | hp
        · exact .head _
        · exact .tail _ (List.mem_append.mpr (.inr hp))
def BadItem (v : Value) : Prop := ∃ (z : Int) (t : Tok), v = .int z t ∧ BadI z
section
variable {w : World} {mean : ExcName → Option Value} {mg mb : Str → Option Value}
  {dp un : Nat} {gd : Option (List Code)} {cn : Str} {cs : Scope} {a : Addr} {ccd : Value} {cl : List (Str × Addr)} {outer : List Env} {A₀ : Around} {base h₀ : Heap} {L : Addr} {m : Str → Option Value} {s : Shared} {Q E : Value → Shared → Prop}
  {news : List (Addr × Obj)} {src lst : Addr} {o : Obj} {g : Obj → List (Addr × Obj)} {vals : List Value} {n : Nat}
theorem take4_use {tt : Tok} (B : Below A₀ base outer h₀) (F : Fr h₀ L s.heap m) (X : (Mine.hd.heap_1 w.params).In h₀) (N : News h₀ L s.heap news) (T : Top Mine.view (looseW Mine.view [Str.ofString "Bpdu"]) mean mg mb h₀) (hk : cs.kind = .function)
  (U : UpdF src o news g) (ho : IsSrc o) (hd : dp + 1 < recursionLimit) (hu : un + 8 * 1 < cLine)
  (r0 : ∀ (t : Tok) (o' : Obj) (h' : Heap) (tk' : Nat), IsSrc o' → Fr h₀ L h' m → News h₀ L h' (g o') → Q (.int 0 t) { s with heap := h', toks := tk' })
  (r1 : ∀ (t : Tok) (o' : Obj) (h' : Heap) (tk' : Nat), IsSrc o' → Fr h₀ L h' m → News h₀ L h' (g o') → Q (.int 1 t) { s with heap := h', toks := tk' })
  (r2 : ∀ (t : Tok) (o' : Obj) (h' : Heap) (tk' : Nat), IsSrc o' → Fr h₀ L h' m → News h₀ L h' (g o') → Q (.int 2 t) { s with heap := h', toks := tk' })
  (r3 : ∀ (t : Tok) (o' : Obj) (h' : Heap) (tk' : Nat), IsSrc o' → Fr h₀ L h' m → News h₀ L h' (g o') → Q (.int 3 t) { s with heap := h', toks := tk' }) :
  wpAny (model (PySem.Challenge.rw_xm0978_01.prog) w) (ktrTop dp un gd cn cs L a ccd cl outer) (call (.ref 210) [.ref src, .int 4 tt]) Q E s := by
  refine take_use B F X N T hk U ho (by decide) (by decide) hd hu fun r t o' h' tk' q1 q2 ro' F' N' => ?_
  rcases (show r = 0 ∨ r = 1 ∨ r = 2 ∨ r = 3 by omega) with rfl | rfl | rfl | rfl
  · exact r0 t o' h' tk' ro' F' N'
  · exact r1 t o' h' tk' ro' F' N'
  · exact r2 t o' h' tk' ro' F' N'
  · exact r3 t o' h' tk' ro' F' N'
theorem one_bad (B : Below A₀ base outer h₀) (F : Fr h₀ L s.heap m) (X : (Mine.hd.heap_1 w.params).In h₀) (N : News h₀ L s.heap news) (T : Top Mine.view (looseW Mine.view [Str.ofString "Bpdu"]) mean mg mb h₀) (hk : cs.kind = .function)
  (U : UpdF src o news g) (ho : IsSrc o) (hm : (lst, listOf vals.toArray n) ∈ news) (hne : lst ≠ src) (hP : ∀ v ∈ vals, BadItem v) (ht : 1 ≤ vals.length) (ht2 : vals.length ≤ 1000) (hd : dp + 2 < recursionLimit) (hu : un + 8 * 2 < cLine)
  (ret : ∀ (z : Int) (t : Tok) (o' : Obj) (h' : Heap) (tk' : Nat), BadI z → IsSrc o' → Fr h₀ L h' m → News h₀ L h' (g o') → Q (.int z t) { s with heap := h', toks := tk' }) :
  wpAny (model (PySem.Challenge.rw_xm0978_01.prog) w) (ktrTop dp un gd cn cs L a ccd cl outer) (call (.ref 217) [.ref src, .ref lst]) Q E s := by
  refine one_use BadItem B F X N T hk U ho hm hne hP ht ht2 hd hu ?_
  rintro _ o' h' tk' ⟨z, t, rfl, h1⟩ ro' F' N'
  exact ret z t o' h' tk' h1 ro' F' N'
end
theorem lines67 : True := by
  (k_with "m_bads" => first | exact List.forall_mem_nil _ | (refine List.forall_mem_cons.mpr ⟨⟨_, _, rfl, by unfold BadI; decide⟩, ?_⟩; k_extra "m_bads"))
  (k_with "call ref" => (k_here; (with_reducible show wpAny _ _ (call (Value.ref 217) [Value.ref _, Value.ref _]) _ _ _); k_dflt (refine' one_bad ?z96k1 ?z96k2 ?z96k3 ?z96k4 ?z96k5 ?z96k6 ?z96U ?z96o ?z96m ?z96ne ?z96P ?z96t1 ?z96t2 ?z96k7 ?z96k8 ?_; (case z96k4 => k_asm); (case z96m => k_mem); (case z96P => k_extra "m_bads"); k_dflt ((case z96k1 => k_asm); (case z96k2 => k_asm); (case z96k3 => k_asm); (case z96k5 => k_asm); (case z96k6 => first | exact rfl | assumption); (case z96U => k_updF); (case z96o => assumption); (case z96ne => k_ne); (case z96t1 => k_extra "m_len"); (case z96t2 => k_extra "m_len"); (case z96k7 => ktr_room); (case z96k8 => ktr_units))); intro z' t' o' h' tk' ra' ro' F' N'; (try dsimp only at N'); (try dsimp only); (try k_sweep)))
  (k_with "call ref" => (k_here; (with_reducible show wpAny _ _ (call (Value.ref 210) [Value.ref _, Value.int 4 _]) _ _ _); k_dflt (refine' take4_use ?z97k1 ?z97k2 ?z97k3 ?z97k4 ?z97k5 ?z97k6 ?z97U ?z97o ?z97k7 ?z97k8 ?_ ?_ ?_ ?_; (case z97k1 => k_asm); (case z97k2 => k_asm); (case z97k3 => k_asm); (case z97k4 => k_asm); (case z97k5 => k_asm); (case z97k6 => first | exact rfl | assumption); (case z97U => k_updF); (case z97o => assumption); (case z97k7 => ktr_room); (case z97k8 => ktr_units)) <;> (intro t' o' h' tk' ro' F' N'; (try dsimp only at N'); (try dsimp only); (try k_sweep))))
  (k_with "call ref" => (k_here; (with_reducible show wpAny _ _ (call (Value.ref 163) [Value.ref _]) _ _ _); k_dflt (refine' CtrX.use ?z98k1 ?z98k2 ?z98k3 ?z98k4 ?z98k5 ?z98k6 ?z98k7 ?z98k8 (timX_c _ _ _ _ _ _ _ _ _ _ _ _ _ _ _ _ _ _ _ ?z98x ?z98d ?z98hb) ?_; (case z98k4 => k_asm); (case z98x => k_mem); (case z98d => k_mem); (case z98hb => (unfold BadT OkI; first | exact .inl (by assumption) | exact .inr ⟨⟨by decide, by decide⟩, .inl (by assumption)⟩ | exact .inr ⟨⟨by decide, by decide⟩, .inr ⟨⟨by decide, by decide⟩, .inl (by assumption)⟩⟩ | exact .inr ⟨⟨by decide, by decide⟩, .inr ⟨⟨by decide, by decide⟩, .inr ⟨⟨by decide, by decide⟩, by assumption⟩⟩⟩)); ((case z98k1 => k_asm); (case z98k2 => k_asm); (case z98k3 => k_asm); (try (case z98k4 => k_asm)); (case z98k5 => k_asm); (case z98k6 => first | exact rfl | assumption); (case z98k7 => ktr_room); (case z98k8 => ktr_units))); intro e' t' ms' g₂' h' tk' F' S' U'; (try dsimp only)))
  trivial
set_option maxHeartbeats 2000000 in
theorem tref_c (w : World) (mean : ExcName → Option Value) (mg mb : Str → Option Value) (src : Addr) (o : Obj) (rest : List (Addr × Obj))
   (ho : IsSrc o) (hrest : ∀ p ∈ rest, p.1 ≠ src) :
   CtrS w mean mg mb 8 276 [.ref src] ((src, o) :: rest) (fun v news' => ∃ ex o', (v = .bool true ∧ IsSrc o' ∧ ex = []) ∧ news' = ex ++ (src, o') :: rest) := by
  k_extra "m_fill"
  unfold CtrS
  intro dp un gd cn cs a ccd outer A₀ base g₀ h₀ L m s Q E B F X N T XB TB D T0 hk hdp hun hret
  refine wpAny_call ?_
  k_dflt k_extra "m_enterS"
  k_steps
  all_goals (refine' hret _ _ _ _ _ ⟨[], _, ⟨rfl, ?ro, rfl⟩, rfl⟩ ?T ?F ?N ?B ?X ?P ?D; (case ro => assumption); (case T => assumption); (case F => assumption); (case N => (dsimp only [List.nil_append]; exact cb_drop (by assumption) (by k_extra "m_sub"))); (case B => assumption); (case X => assumption); (case P => assumption); (case D => assumption))
-- ChkA
theorem lines68 : True := by
  w_top off
  trivial
def pkd (v : Int) (k : Str) : Bool := [PyData.tuple [.int 0, .str (Str.ofString "config")], PyData.tuple [.int 0, .str (Str.ofString "change")], PyData.tuple [.int 2, .str (Str.ofString "rapid")], PyData.tuple [.int 3, .str (Str.ofString "rapid")]].any fun y => PyData.eqv y (.tuple [.int v, .str k])
def rolesOk (r : Str) : Bool := [PyData.str (Str.ofString "none"), PyData.str (Str.ofString "alternate"), PyData.str (Str.ofString "root"), PyData.str (Str.ofString "designated")].any fun y => PyData.eqv y (.str r)
def rolesBad (r : Str) : Bool := [PyData.str (Str.ofString "backup"), PyData.str (Str.ofString "")].any fun y => PyData.eqv y (.str r)
def OptV (v : Value) : Prop := v = .none ∨ ∃ a, v = .ref a
def isN : Value → Bool
  | .none => true
  | _ => false
section
variable {prog : Program} {w : World} {A : Around} {E : Value → Shared → Prop} {s : Shared} {h₀ : Heap} {L x : Addr} {m : Str → Option Value} {news : List (Addr × Obj)} {K : Frag} {Q : Value → Shared → Prop} {p0 p1 p2 p3 l lt : Addr} {n n0 n1 n2 n3 n5 : Nat} {d5 d0 d1 d2 d3 : Option Addr} {sl s0 s1 s2 s3 : Array (Option Value)} {v : Int} {k r : Str} {t u i0 i1 i2 i3 j0 j1 j2 j3 : Tok} {vv : Value}
theorem is_opt {M : Model} (h : OptV vv) (q : Q (.bool (isN vv)) s) : wpAny M A (compareOp .Is vv .none) Q E s := by
  rcases h with rfl | ⟨a, rfl⟩
  · exact wpAny_is_self (by rfl) q
  · exact is_ref_none q
theorem rd_pair {h : Heap} {p : Addr} {d : Option Addr} {sl : Array (Option Value)} {n : Nat} {i : Int} {k : Str} {t u : Tok} (hp : h.get? p = some ⟨.type "tuple", d, .seq #[.int i t, .str k u] n, sl⟩) : Reads h (.ref p) (.tuple [.int i, .str k]) [] :=
  reads_tuple_at hp rfl rfl (.cons (.int _ _) (.cons (.str _ _) .nil))
theorem pk_lay : PyData.canLayAll0 [PyData.tuple [.int 0, .str (Str.ofString "config")], PyData.tuple [.int 0, .str (Str.ofString "change")], PyData.tuple [.int 2, .str (Str.ofString "rapid")], PyData.tuple [.int 3, .str (Str.ofString "rapid")]] = true := by decide +kernel
theorem pr_lay (hk : PyData.strOk k = true) : (PyData.tuple [.int v, .str k]).canLay0 = true := by simp [PyData.canLay0, PyData.canLayAll0, hk]
theorem pr_dep : (PyData.tuple [.int v, .str k]).depth ≤ 4 := by simp [PyData.depth, PyData.depthAll]
theorem notin_packed (F : Fr h₀ L s.heap m) (X : K.In h₀) (N : News h₀ L s.heap news) (hm : (x, tupOf [.int v t, .str k u] n) ∈ news)
   (h5 : K.lookup l = some ⟨.type "tuple", d5, .seq #[.ref p0, .ref p1, .ref p2, .ref p3] n5, sl⟩)
   (q0 : K.lookup p0 = some ⟨.type "tuple", d0, .seq #[.int 0 i0, .str (Str.ofString "config") j0] n0, s0⟩) (q1 : K.lookup p1 = some ⟨.type "tuple", d1, .seq #[.int 0 i1, .str (Str.ofString "change") j1] n1, s1⟩)
   (q2 : K.lookup p2 = some ⟨.type "tuple", d2, .seq #[.int 2 i2, .str (Str.ofString "rapid") j2] n2, s2⟩) (q3 : K.lookup p3 = some ⟨.type "tuple", d3, .seq #[.int 3 i3, .str (Str.ofString "rapid") j3] n3, s3⟩)
   (hk : PyData.strOk k = true) (hu : A.units + 64 < cLine) (h : Q (.bool (!pkd v k)) s) : wpAny (model prog w) A (compareOp .NotIn (.ref x) (.ref l)) Q E s := by
  have g : ∀ {b : Addr} {o : Obj}, K.lookup b = some o → s.heap.get? b = some o := fun e => F.keep _ _ (X _ _ e)
  have hx : Reads s.heap (.ref x) (.tuple [.int v, .str k]) [] := rd_pair (N _ hm).1
  refine SeqAt.notIn_tuple_reads (reads_tuple_at (g h5) rfl rfl (.cons (rd_pair (g q0)) (.cons (rd_pair (g q1)) (.cons (rd_pair (g q2)) (.cons (rd_pair (g q3)) .nil))))) hx pk_lay (pr_lay hk) ?_ h
  have := Nat.min_le_right (PyData.depthAll [PyData.tuple [.int 0, .str (Str.ofString "config")], PyData.tuple [.int 0, .str (Str.ofString "change")], PyData.tuple [.int 2, .str (Str.ofString "rapid")], PyData.tuple [.int 3, .str (Str.ofString "rapid")]]) (PyData.tuple [.int v, .str k]).depth
  have := pr_dep (v := v) (k := k)
  omega
theorem notin_packedL (N : News h₀ L s.heap news) (hm : (x, tupOf [.int v t, .str k u] n) ∈ news)
   (h5 : (l, listOf [.ref p0, .ref p1, .ref p2, .ref p3].toArray n5) ∈ news)
   (q0 : (p0, tupOf [.int 0 i0, .str (Str.ofString "config") j0] n0) ∈ news) (q1 : (p1, tupOf [.int 0 i1, .str (Str.ofString "change") j1] n1) ∈ news)
   (q2 : (p2, tupOf [.int 2 i2, .str (Str.ofString "rapid") j2] n2) ∈ news) (q3 : (p3, tupOf [.int 3 i3, .str (Str.ofString "rapid") j3] n3) ∈ news)
   (hk : PyData.strOk k = true) (hu : A.units + 64 < cLine) (h : Q (.bool (!pkd v k)) s) : wpAny (model prog w) A (compareOp .NotIn (.ref x) (.ref l)) Q E s := by
  have g : ∀ {b : Addr} {o : Obj}, (b, o) ∈ news → s.heap.get? b = some o := fun e => (N _ e).1
  have hx : Reads s.heap (.ref x) (.tuple [.int v, .str k]) [] := rd_pair (g hm)
  refine SeqAt.notIn_list_reads (reads_list_at (g h5) rfl rfl (.cons (rd_pair (g q0)) (.cons (rd_pair (g q1)) (.cons (rd_pair (g q2)) (.cons (rd_pair (g q3)) .nil))))) hx pk_lay (pr_lay hk) ?_ h
  have := Nat.min_le_right (PyData.depthAll [PyData.tuple [.int 0, .str (Str.ofString "config")], PyData.tuple [.int 0, .str (Str.ofString "change")], PyData.tuple [.int 2, .str (Str.ofString "rapid")], PyData.tuple [.int 3, .str (Str.ofString "rapid")]]) (PyData.tuple [.int v, .str k]).depth
  have := pr_dep (v := v) (k := k)
  omega
theorem notin_roles (F : Fr h₀ L s.heap m) (X : K.In h₀)
   (h5 : K.lookup l = some ⟨.type "tuple", d5, .seq #[.str (Str.ofString "none") j0, .str (Str.ofString "alternate") j1, .str (Str.ofString "root") j2, .str (Str.ofString "designated") j3] n5, sl⟩)
   (hk : PyData.strOk r = true) (hu : A.units + 64 < cLine) (h : Q (.bool (!rolesOk r)) s) : wpAny (model prog w) A (compareOp .NotIn (.str r u) (.ref l)) Q E s := by
  refine SeqAt.notIn_tuple_reads (reads_tuple_at (F.keep _ _ (X _ _ h5)) rfl rfl (.cons (.str _ _) (.cons (.str _ _) (.cons (.str _ _) (.cons (.str _ _) .nil))))) (.str r u) (by decide +kernel) (by simpa [PyData.canLay0] using hk) ?_ h
  have := Nat.min_le_right (PyData.depthAll [PyData.str (Str.ofString "none"), PyData.str (Str.ofString "alternate"), PyData.str (Str.ofString "root"), PyData.str (Str.ofString "designated")]) (PyData.str r).depth
  have : (PyData.str r).depth ≤ 4 := by simp [PyData.depth]
  omega
theorem in_bad (N : News h₀ L s.heap news) (h5 : (l, listOf [.str (Str.ofString "backup") j0, .str (Str.ofString "") j1].toArray n5) ∈ news)
   (hk : PyData.strOk r = true) (hu : A.units + 64 < cLine) (h : Q (.bool (rolesBad r)) s) : wpAny (model prog w) A (compareOp .In (.str r u) (.ref l)) Q E s := by
  refine SeqAt.in_list_reads (reads_list_at (N _ h5).1 rfl rfl (.cons (.str _ _) (.cons (.str _ _) .nil))) (.str r u) (by decide +kernel) (by simpa [PyData.canLay0] using hk) ?_ h
  have := Nat.min_le_right (PyData.depthAll [PyData.str (Str.ofString "backup"), PyData.str (Str.ofString "")]) (PyData.str r).depth
  have : (PyData.str r).depth ≤ 4 := by simp [PyData.depth]
  omega
end
abbrev bpdD (P : Params) (v : Int) (k r : Str) (tl : Array UInt8) (vv tw : Value) (tv tk tr tt u0 u1 u2 u3 u4 u5 u6 u7 u8 u9 ua ub : Tok) : Obj := dictOf [
  { hash := PyData.keyHash P (Str.ofString "version"), key := Value.str (Str.ofString "version") u0, val := Value.int v tv },
  { hash := PyData.keyHash P (Str.ofString "kind"), key := Value.str (Str.ofString "kind") u1, val := Value.str k tk },
  { hash := PyData.keyHash P (Str.ofString "vector"), key := Value.str (Str.ofString "vector") u2, val := vv },
  { hash := PyData.keyHash P (Str.ofString "times"), key := Value.str (Str.ofString "times") u3, val := tw },
  { hash := PyData.keyHash P (Str.ofString "is_change"), key := Value.str (Str.ofString "is_change") u4, val := Value.bool false },
  { hash := PyData.keyHash P (Str.ofString "is_change_ack"), key := Value.str (Str.ofString "is_change_ack") u5, val := Value.bool false },
  { hash := PyData.keyHash P (Str.ofString "is_proposal"), key := Value.str (Str.ofString "is_proposal") u6, val := Value.bool false },
  { hash := PyData.keyHash P (Str.ofString "is_agreement"), key := Value.str (Str.ofString "is_agreement") u7, val := Value.bool false },
  { hash := PyData.keyHash P (Str.ofString "role"), key := Value.str (Str.ofString "role") u8, val := Value.str r tr },
  { hash := PyData.keyHash P (Str.ofString "is_learning"), key := Value.str (Str.ofString "is_learning") u9, val := Value.bool false },
  { hash := PyData.keyHash P (Str.ofString "is_forwarding"), key := Value.str (Str.ofString "is_forwarding") ua, val := Value.bool false },
  { hash := PyData.keyHash P (Str.ofString "tail"), key := Value.str (Str.ofString "tail") ub, val := Value.bytes tl tt }] 12
-- Bpd
theorem lines69 : True := by
  w_top off
  trivial
theorem optv_handed {v : Value} (h : OptV v) : handedIn v = true := by
  rcases h with rfl | ⟨a, rfl⟩ <;> rfl
local macro_rules | `(tactic| k_handed) => `(tactic| exact optv_handed (by with_reducible assumption))
set_option maxHeartbeats 4000000 in
theorem bpd_c (w : World) (mean : ExcName → Option Value) (mg mb : Str → Option Value) (v : Int) (k r : Str) (tl : Array UInt8) (vv tw : Value) (tv tk tr tt : Tok) (news : List (Addr × Obj)) (hvv : OptV vv) (htw : OptV tw)
  (dp un : Nat) (gd : Option (List Code)) (cn : Str) (cs : Scope) (a : Addr) (ccd : Value) (cl : List (Str × Addr)) (outer : List Env) (A₀ : Around) (base h₀ : Heap) (L : Addr) (m : Str → Option Value) (s : Shared) (Q E : Value → Shared → Prop)
   (B : Below A₀ base outer h₀) (F : Fr h₀ L s.heap m) (X : (Mine.hd.heap_1 w.params).In h₀) (N : News h₀ L s.heap news) (T : Top Mine.view (looseW Mine.view [Str.ofString "Bpdu"]) mean mg mb h₀) (hk : cs.kind = .function)
   (hdp : dp + 4 < recursionLimit) (hun : un + 8 * 4 < cLine)
   (hret : ∀ (x dx : Addr) (tv tk tr tt u0 u1 u2 u3 u4 u5 u6 u7 u8 u9 ua ub : Tok) (h' : Heap) (tk' : Nat), AllLt dx news → @LT.lt Nat _ dx x → Fr h₀ L h' m → News h₀ L h' ((x, instObj 119 dx) :: (dx, bpdD w.params v k r tl vv tw tv tk tr tt u0 u1 u2 u3 u4 u5 u6 u7 u8 u9 ua ub) :: news) → Q (.ref x) { s with heap := h', toks := tk' }) :
   wpAny (model (PySem.Challenge.rw_xm0978_01.prog) w) (ktrTop dp un gd cn cs L a ccd cl outer) (call (.ref 119) [.int v tv, .str k tk, vv, tw] [(Str.ofString "role", .str r tr), (Str.ofString "tail", .bytes tl tt)]) Q E s := by
  k_extra "m_fill"
  refine' call_cls ?k1 ?k2 ?k3 ?k4 ?k5 ?k6 ?_
  (case k1 => k_asm)
  (case k2 => k_asm)
  (case k3 => k_asm)
  (case k4 => k_dflt k_is)
  (case k5 => k_dflt k_is)
  (case k6 => k_dflt k_is)
  intro x' d' h' F' N' l1 l2
  (try k_lt l1); (try k_lt2 l2); (try k_sweep)
  refine' code_def (binds := [(Str.ofString "self", .ref x'), (Str.ofString "version", .int v tv), (Str.ofString "kind", .str k tk), (Str.ofString "vector", vv), (Str.ofString "times", tw), (Str.ofString "is_change", .bool false), (Str.ofString "is_change_ack", .bool false), (Str.ofString "is_proposal", .bool false), (Str.ofString "is_agreement", .bool false), (Str.ofString "role", .str r tr), (Str.ofString "is_learning", .bool false), (Str.ofString "is_forwarding", .bool false), (Str.ofString "tail", .bytes tl tt)]) ?k1 ?k2 ?k3 ?k4 ?k5 ?kA ?kF ?kK ?k6 ?k7 ?k8 ?k9 ?kB ?_ ?c2 ?c3 ?c4 ?c5
  (case kA => exact rfl)
  (case kF => exact rfl)
  (case kK => assumption)
  (case k1 => k_asm)
  (case k2 => k_asm)
  (case k3 => k_asm)
  (case k4 => k_asm)
  (case k5 => k_asm)
  (case k6 => k_dflt k_is)
  (case k7 => k_dflt k_is)
  (case k8 => ktr_room)
  (case k9 => with_unfolding_all exact binds_K (by k_in) rfl (by k_is) rfl rfl rfl)
  (case kB => exact locs rfl)
  (case c5 => decide)
  (case c2 => exact rfl)
  (case c3 => exact rfl)
  (case c4 => exact rfl)
  k_whole
  intro g' L' h' FG' F' N' B' X' T'
  (try dsimp only)
  (try k_lift B')
  (try k_fold)
  k_steps
  all_goals (refine' hret _ _ _ _ _ _ _ _ _ _ _ _ _ _ _ _ _ _ _ _ ?l1 ?l2 ?F ?N; (case F => assumption); (case N => assumption); (case l1 => exact allLt_of (by assumption)); (case l2 => assumption))
-- ChkB
theorem lines70 : True := by
  w_top off
  (k_with "compareOp NotIn ref ref" => (k_here; (with_reducible show wpAny _ _ (compareOp CmpOp.NotIn (Value.ref _) (Value.ref 52)) _ _ _); k_dflt (refine' notin_packed ?z99F ?z99X ?z99N ?z99m ?z99h5 ?z99q0 ?z99q1 ?z99q2 ?z99q3 ?z99k ?z99u ?_; (case z99F => k_asm); (case z99X => k_asm); (case z99N => k_asm); (case z99m => k_mem); (case z99h5 => k_is); (case z99q0 => k_is); (case z99q1 => k_is); (case z99q2 => k_is); (case z99q3 => k_is); (case z99k => assumption); (case z99u => ktr_units))))
  (k_with "compareOp NotIn str ref" => (k_here; (with_reducible show wpAny _ _ (compareOp CmpOp.NotIn (Value.str _ _) (Value.ref 47)) _ _ _); k_dflt (refine' notin_roles ?z100F ?z100X ?z100h5 ?z100k ?z100u ?_; (case z100F => k_asm); (case z100X => k_asm); (case z100h5 => k_is); (case z100k => assumption); (case z100u => ktr_units))))
  (k_with "compareOp Is" => (k_here; (with_reducible show wpAny _ _ (compareOp CmpOp.Is _ Value.none) _ _ _); (refine is_opt (by with_reducible assumption) ?_)))
  trivial
def dueB (v : Int) (k r : Str) (tl : Array UInt8) (vv tw : Value) : Bool := (!pkd v k || (decide (v < 3) && (tl.toList != (#[] : Array UInt8).toList))) || ((k != Str.ofString "change") && (isN vv || isN tw || !rolesOk r))
section
variable {v : Int} {k r : Str} {tl : Array UInt8} {vv tw : Value}
theorem due_t1 (h : pkd v k = false) : true = dueB v k r tl vv tw := by simp only [dueB, h, Bool.not_false, Bool.true_or]
theorem due_t2 (h : v < 3) (h2 : (tl.toList != (#[] : Array UInt8).toList) = true) : true = dueB v k r tl vv tw := by simp only [dueB, h, h2, decide_true, Bool.and_true, Bool.or_true, Bool.true_or]
theorem due_t3 (h : (k != Str.ofString "change") = true) (h2 : isN vv = true) : true = dueB v k r tl vv tw := by simp only [dueB, h, h2, Bool.and_true, Bool.or_true, Bool.true_or]
theorem due_t4 (h : (k != Str.ofString "change") = true) (h2 : isN tw = true) : true = dueB v k r tl vv tw := by simp only [dueB, h, h2, Bool.and_true, Bool.or_true, Bool.true_or]
theorem due_t5 (h : (k != Str.ofString "change") = true) (h2 : rolesOk r = false) : true = dueB v k r tl vv tw := by simp only [dueB, h, h2, Bool.and_true, Bool.or_true, Bool.not_false]
theorem due_f1 (h : pkd v k = true) (h1 : ¬ v < 3) (h2 : (k != Str.ofString "change") = false) : false = dueB v k r tl vv tw := by simp only [dueB, h, h1, h2, Bool.not_true, Bool.false_and, Bool.or_false, decide_false]
theorem due_f2 (h : pkd v k = true) (h1 : (tl.toList != (#[] : Array UInt8).toList) = false) (h2 : (k != Str.ofString "change") = false) : false = dueB v k r tl vv tw := by simp only [dueB, h, h1, h2, Bool.not_true, Bool.false_and, Bool.and_false, Bool.or_false]
theorem due_f3 (h : pkd v k = true) (h1 : ¬ v < 3) (h2 : isN vv = false) (h3 : isN tw = false) (h4 : rolesOk r = true) : false = dueB v k r tl vv tw := by simp only [dueB, h, h1, h2, h3, h4, Bool.not_true, Bool.false_and, Bool.and_false, Bool.or_false, decide_false]
theorem due_f4 (h : pkd v k = true) (h1 : (tl.toList != (#[] : Array UInt8).toList) = false) (h2 : isN vv = false) (h3 : isN tw = false) (h4 : rolesOk r = true) : false = dueB v k r tl vv tw := by simp only [dueB, h, h1, h2, h3, h4, Bool.not_true, Bool.and_false, Bool.or_false]
end
theorem lines71 : True := by
  (k_with "m_due" => first | exact due_t1 (by assumption) | exact due_t2 (by assumption) (by assumption) | exact due_t3 (by assumption) (by assumption) | exact due_t4 (by assumption) (by assumption) | exact due_t5 (by assumption) (by assumption) | exact due_f1 (by assumption) (by assumption) (by assumption) | exact due_f2 (by assumption) (by assumption) (by assumption) | exact due_f3 (by assumption) (by assumption) (by assumption) (by assumption) (by assumption) | exact due_f4 (by assumption) (by assumption) (by assumption) (by assumption) (by assumption))
  trivial
set_option maxHeartbeats 2000000 in
theorem isr_c (w : World) (mean : ExcName → Option Value) (mg mb : Str → Option Value) (x dx : Addr) (v : Int) (k r : Str) (tl : Array UInt8) (vv tw : Value) (tv tk tr tt u0 u1 u2 u3 u4 u5 u6 u7 u8 u9 ua ub : Tok) (news : List (Addr × Obj))
   (hx : (x, instObj 119 dx) ∈ news) (hd : (dx, bpdD w.params v k r tl vv tw tv tk tr tt u0 u1 u2 u3 u4 u5 u6 u7 u8 u9 ua ub) ∈ news)
   (hk1 : PyData.strOk k = true) (hr1 : PyData.strOk r = true) (hvv : OptV vv) (htw : OptV tw) :
   CtrS w mean mg mb 20 255 [.ref x] news (fun w' news' => w' = .bool (dueB v k r tl vv tw) ∧ news' = news) := by
  k_extra "m_fill"
  unfold CtrS
  intro dp un gd cn cs a ccd outer A₀ base g₀ h₀ L m s Q E B F X N T XB TB D T0 hk hdp hun hret
  refine wpAny_call ?_
  k_dflt k_extra "m_enterS"
  k_steps
  all_goals (refine' hret _ _ _ _ _ ⟨congrArg Value.bool ?e, rfl⟩ ?T ?F ?N ?B ?X ?P ?D; (case e => k_extra "m_due"); (case T => assumption); (case F => assumption); (case N => exact cb_drop (by assumption) (by k_extra "m_sub")); (case B => assumption); (case X => assumption); (case P => assumption); (case D => assumption))
-- ChkD
theorem lines72 : True := by
  w_top off
  trivial
def CutQ (P : Value → Shared → Prop) : Value → Shared → Prop := P
section
variable {M : Model} {A : Around} {E : Value → Shared → Prop} {s : Shared} {h₀ : Heap} {L src : Addr} {m : Str → Option Value} {news : List (Addr × Obj)} {o : Obj} {g : Obj → List (Addr × Obj)} {e : PySem.Expr} {env : Env} {Q : Value → Shared → Prop}
theorem cut_opt (_F : Fr h₀ L s.heap m) (_N : News h₀ L s.heap news) (_ho : IsSrc o) (_hm : (src, o) ∈ news) (_U : UpdF src o news g)
   (k : ∀ v h' tk o', OptV v → IsSrc o' → Fr h₀ L h' m → News h₀ L h' (g o') → Q v { s with heap := h', toks := tk })
   (h : wpAny M A (eval e env) (CutQ fun v s' => ∃ h' tk o', OptV v ∧ IsSrc o' ∧ s' = { s with heap := h', toks := tk } ∧ Fr h₀ L h' m ∧ News h₀ L h' (g o')) E s) : wpAny M A (eval e env) Q E s := by
  refine wpAny_mono h ?_ fun _ _ x => x
  rintro v s' ⟨h', tk, o', q1, q2, rfl, q3, q4⟩
  exact k v h' tk o' q1 q2 q3 q4
theorem cut_opt_mk {h' : Heap} {tk : Nat} {o' : Obj} {v : Value} (q1 : OptV v) (q2 : IsSrc o') (q3 : Fr h₀ L h' m) (q4 : News h₀ L h' (g o')) :
   CutQ (fun v s' => ∃ h' tk o', OptV v ∧ IsSrc o' ∧ s' = { s with heap := h', toks := tk } ∧ Fr h₀ L h' m ∧ News h₀ L h' (g o')) v { s with heap := h', toks := tk } := ⟨h', tk, o', q1, q2, rfl, q3, q4⟩
end
def RoleV (v : Value) : Prop := ∃ (r : Str) (t : Tok), v = .str r t ∧ PyData.strOk r = true ∧ rolesBad r = !rolesOk r
def TailV (v : Value) : Prop := ∃ (b : Array UInt8) (t : Tok), v = .bytes b t
section
variable {w : World} {mean : ExcName → Option Value} {mg mb : Str → Option Value}
  {dp un : Nat} {gd : Option (List Code)} {cn : Str} {cs : Scope} {a : Addr} {ccd : Value} {cl : List (Str × Addr)} {outer : List Env} {A₀ : Around} {base h₀ : Heap} {L : Addr} {m : Str → Option Value} {s : Shared} {Q E : Value → Shared → Prop}
  {news : List (Addr × Obj)} {src lst : Addr} {o : Obj} {g : Obj → List (Addr × Obj)} {vals : List Value} {n : Nat}
theorem one_role (B : Below A₀ base outer h₀) (F : Fr h₀ L s.heap m) (X : (Mine.hd.heap_1 w.params).In h₀) (N : News h₀ L s.heap news) (T : Top Mine.view (looseW Mine.view [Str.ofString "Bpdu"]) mean mg mb h₀) (hk : cs.kind = .function)
  (U : UpdF src o news g) (ho : IsSrc o) (hm : (lst, listOf vals.toArray n) ∈ news) (hne : lst ≠ src) (hP : ∀ v ∈ vals, RoleV v) (ht : 1 ≤ vals.length) (ht2 : vals.length ≤ 1000) (hd : dp + 2 < recursionLimit) (hu : un + 8 * 2 < cLine)
  (ret : ∀ (r : Str) (t : Tok) (o' : Obj) (h' : Heap) (tk' : Nat), PyData.strOk r = true → (rolesBad r = !rolesOk r) → IsSrc o' → Fr h₀ L h' m → News h₀ L h' (g o') → Q (.str r t) { s with heap := h', toks := tk' }) :
  wpAny (model (PySem.Challenge.rw_xm0978_01.prog) w) (ktrTop dp un gd cn cs L a ccd cl outer) (call (.ref 217) [.ref src, .ref lst]) Q E s := by
  refine one_use RoleV B F X N T hk U ho hm hne hP ht ht2 hd hu ?_
  rintro _ o' h' tk' ⟨z, t, rfl, h1, h2⟩ ro' F' N'
  exact ret z t o' h' tk' h1 h2 ro' F' N'
theorem one_tail (B : Below A₀ base outer h₀) (F : Fr h₀ L s.heap m) (X : (Mine.hd.heap_1 w.params).In h₀) (N : News h₀ L s.heap news) (T : Top Mine.view (looseW Mine.view [Str.ofString "Bpdu"]) mean mg mb h₀) (hk : cs.kind = .function)
  (U : UpdF src o news g) (ho : IsSrc o) (hm : (lst, listOf vals.toArray n) ∈ news) (hne : lst ≠ src) (hP : ∀ v ∈ vals, TailV v) (ht : 1 ≤ vals.length) (ht2 : vals.length ≤ 1000) (hd : dp + 2 < recursionLimit) (hu : un + 8 * 2 < cLine)
  (ret : ∀ (r : Array UInt8) (t : Tok) (o' : Obj) (h' : Heap) (tk' : Nat), IsSrc o' → Fr h₀ L h' m → News h₀ L h' (g o') → Q (.bytes r t) { s with heap := h', toks := tk' }) :
  wpAny (model (PySem.Challenge.rw_xm0978_01.prog) w) (ktrTop dp un gd cn cs L a ccd cl outer) (call (.ref 217) [.ref src, .ref lst]) Q E s := by
  refine one_use TailV B F X N T hk U ho hm hne hP ht ht2 hd hu ?_
  rintro _ o' h' tk' ⟨z, t, rfl⟩ ro' F' N'
  exact ret z t o' h' tk' ro' F' N'
end
theorem lines73 : True := by
  (k_with "m_roles" => first | exact List.forall_mem_nil _ | (refine List.forall_mem_cons.mpr ⟨⟨_, _, rfl, by decide +kernel, by decide +kernel⟩, ?_⟩; k_extra "m_roles"))
  (k_with "m_tails" => first | exact List.forall_mem_nil _ | (refine List.forall_mem_cons.mpr ⟨⟨_, _, rfl⟩, ?_⟩; k_extra "m_tails"))
  (k_with "m_one" => ((case k1 => k_asm); (case k2 => k_asm); (case k3 => k_asm); (case k5 => k_asm); (case k6 => first | exact rfl | assumption); (case U => k_updF); (case o => assumption); (case ne => k_ne); (case t1 => k_extra "m_len"); (case t2 => k_extra "m_len"); (case k7 => ktr_room); (case k8 => ktr_units)))
  (k_with "call ref" => (k_here; (with_reducible show wpAny _ _ (call (Value.ref 217) [Value.ref _, Value.ref _]) _ _ _); k_dflt (refine' one_role ?z106k1 ?z106k2 ?z106k3 ?z106k4 ?z106k5 ?z106k6 ?z106U ?z106o ?z106m ?z106ne ?z106P ?z106t1 ?z106t2 ?z106k7 ?z106k8 ?_; (case z106k4 => k_asm); (case z106m => k_mem); (case z106P => k_extra "m_roles"); k_dflt ((case z106k1 => k_asm); (case z106k2 => k_asm); (case z106k3 => k_asm); (case z106k5 => k_asm); (case z106k6 => first | exact rfl | assumption); (case z106U => k_updF); (case z106o => assumption); (case z106ne => k_ne); (case z106t1 => k_extra "m_len"); (case z106t2 => k_extra "m_len"); (case z106k7 => ktr_room); (case z106k8 => ktr_units))); intro roN t' o' h' tk' ra' rb' ro' F' N'; (try dsimp only at N'); (try dsimp only); (try k_sweep)))
  (k_with "call ref" => (k_here; (with_reducible show wpAny _ _ (call (Value.ref 217) [Value.ref _, Value.ref _]) _ _ _); k_dflt (refine' one_tail ?z107k1 ?z107k2 ?z107k3 ?z107k4 ?z107k5 ?z107k6 ?z107U ?z107o ?z107m ?z107ne ?z107P ?z107t1 ?z107t2 ?z107k7 ?z107k8 ?_; (case z107k4 => k_asm); (case z107m => k_mem); (case z107P => k_extra "m_tails"); k_dflt ((case z107k1 => k_asm); (case z107k2 => k_asm); (case z107k3 => k_asm); (case z107k5 => k_asm); (case z107k6 => first | exact rfl | assumption); (case z107U => k_updF); (case z107o => assumption); (case z107ne => k_ne); (case z107t1 => k_extra "m_len"); (case z107t2 => k_extra "m_len"); (case z107k7 => ktr_room); (case z107k8 => ktr_units))); intro taN t' o' h' tk' ro' F' N'; (try dsimp only at N'); (try dsimp only); (try k_sweep)))
  (k_with "compareOp NotIn ref ref" => (k_here; (with_reducible show wpAny _ _ (compareOp CmpOp.NotIn (Value.ref _) (Value.ref _)) _ _ _); k_dflt (refine' notin_packedL ?z108N ?z108m ?z108h5 ?z108q0 ?z108q1 ?z108q2 ?z108q3 ?z108k ?z108u ?_; (case z108N => k_asm); (case z108m => k_mem); (case z108h5 => k_mem); (case z108q0 => k_mem); (case z108q1 => k_mem); (case z108q2 => k_mem); (case z108q3 => k_mem); (case z108k => assumption); (case z108u => ktr_units))))
  (k_with "compareOp In str ref" => (k_here; (with_reducible show wpAny _ _ (compareOp CmpOp.In (Value.str _ _) (Value.ref _)) _ _ _); k_dflt (refine' in_bad ?z109N ?z109h5 ?z109k ?z109u ?_; (case z109N => k_asm); (case z109h5 => k_mem); (case z109k => assumption); (case z109u => ktr_units))))
  (k_with "eval IfExp" => (k_here; (with_reducible show wpAny _ _ (eval (PySem.Expr.IfExp (PySem.Expr.Compare (PySem.Expr.Call _ _ _ _) _ _ _) _ (PySem.Expr.Tuple _ _ _) _) _) _ _ _); (fail_if_success (with_reducible show wpAny _ _ _ (CutQ _) _ _)); k_dflt (refine' cut_opt ?z110F ?z110N ?z110o ?z110m ?z110U ?_ ?_; (case z110F => k_asm); (case z110N => k_asm); (case z110o => assumption); (case z110m => k_mem); (case z110U => k_updF); (intro veN h' tk' o' ov' ro' F' N'; (try dsimp only at N'); (try dsimp only); (try k_sweep)))))
  (k_with "eval IfExp" => (k_here; (with_reducible show wpAny _ _ (eval (PySem.Expr.IfExp (PySem.Expr.Compare (PySem.Expr.Call _ _ _ _) _ _ _) _ (PySem.Expr.Call _ _ _ _) _) _) _ _ _); (fail_if_success (with_reducible show wpAny _ _ _ (CutQ _) _ _)); k_dflt (refine' cut_opt ?z111F ?z111N ?z111o ?z111m ?z111U ?_ ?_; (case z111F => k_asm); (case z111N => k_asm); (case z111o => assumption); (case z111m => k_mem); (case z111U => k_updF); (intro tiN h' tk' o' ov' ro' F' N'; (try dsimp only at N'); (try dsimp only); (try k_sweep)))))
  trivial
def CutF (P : Flow → Shared → Prop) : Flow → Shared → Prop := P
section
variable {M : Model} {A : Around} {E : Value → Shared → Prop} {s : Shared} {h₀ : Heap} {L : Addr} {m : Str → Option Value} {news : List (Addr × Obj)} {st : Stmt} {env : Env} {Q : Flow → Shared → Prop} {x : Str}
theorem cut_due (x : Str) (b : Bool) (_F : Fr h₀ L s.heap m) (_N : News h₀ L s.heap news)
   (k : ∀ h' tk, Fr h₀ L h' (fun y => if y = x then some (.bool b) else m y) → News h₀ L h' news → Q .next { s with heap := h', toks := tk })
   (h : wpAny M A (exec st env) (CutF fun f s' => f = .next ∧ ∃ h' tk, s' = { s with heap := h', toks := tk } ∧ Fr h₀ L h' (fun y => if y = x then some (.bool b) else m y) ∧ News h₀ L h' news) E s) : wpAny M A (exec st env) Q E s := by
  refine wpAny_mono h ?_ fun _ _ x => x
  rintro _ s' ⟨rfl, h', tk, rfl, q3, q4⟩
  exact k h' tk q3 q4
theorem cut_due_mk {h' : Heap} {tk : Nat} {b : Bool} {m' : Str → Option Value} (e : m' = fun y => if y = x then some (.bool b) else m y) (q3 : Fr h₀ L h' m') (q4 : News h₀ L h' news) :
   CutF (fun f s' => f = .next ∧ ∃ h' tk, s' = { s with heap := h', toks := tk } ∧ Fr h₀ L h' (fun y => if y = x then some (.bool b) else m y) ∧ News h₀ L h' news) .next { s with heap := h', toks := tk } := ⟨rfl, h', tk, rfl, e ▸ q3, q4⟩
theorem due_put {b b' : Bool} (e : b' = b) : (fun y => if y = x then some (Value.bool b') else m y) = fun y => if y = x then some (.bool b) else m y := by rw [e]
theorem due_was {b b' : Bool} (e : b' = b) : (fun y => if y = x then some (Value.bool b') else m y) = fun y => if y = x then some (.bool b) else (fun y => if y = x then some (Value.bool b') else m y) y := by
  subst e
  funext y
  by_cases h : y = x <;> simp [h]
end
section
variable {v : Int} {k r : Str} {tl : Array UInt8} {vv tw : Value}
def due2 (v : Int) (k : Str) (tl : Array UInt8) : Bool := !pkd v k || (decide (v < 3) && (tl.toList != (#[] : Array UInt8).toList))
theorem d2_1 (h : pkd v k = false) : (!pkd v k) = due2 v k tl := by simp only [due2, h, Bool.not_false, Bool.true_or]
theorem d2_2 (h : pkd v k = true) (h1 : ¬ v < 3) : decide (v < 3) = due2 v k tl := by simp only [due2, h, h1, decide_false, Bool.not_true, Bool.false_and, Bool.or_false]
theorem d2_3 (h : pkd v k = true) (h1 : v < 3) : (tl.toList != (#[] : Array UInt8).toList) = due2 v k tl := by simp only [due2, h, h1, decide_true, Bool.not_true, Bool.true_and, Bool.false_or]
theorem due_by : dueB v k r tl vv tw = (due2 v k tl || ((k != Str.ofString "change") && (isN vv || isN tw || !rolesOk r))) := rfl
theorem d3_1 (h : due2 v k tl = true) : due2 v k tl = dueB v k r tl vv tw := by rw [due_by, h]; rfl
theorem d3_2 (hk : (k != Str.ofString "change") = true) (h : isN vv = true) : isN vv = dueB v k r tl vv tw := by simp only [due_by, hk, h, Bool.true_or, Bool.true_and, Bool.or_true]
theorem d3_3 (hk : (k != Str.ofString "change") = true) (h : isN tw = true) : isN tw = dueB v k r tl vv tw := by simp only [due_by, hk, h, Bool.true_or, Bool.or_true, Bool.true_and]
theorem d3_4 (hb : due2 v k tl = false) (hk : (k != Str.ofString "change") = true) (h : isN vv = false) (h2 : isN tw = false) (hr : rolesBad r = !rolesOk r) : rolesBad r = dueB v k r tl vv tw := by simp only [due_by, hb, hk, h, h2, hr, Bool.false_or, Bool.true_and]
theorem d3_5 (hk : (k != Str.ofString "change") = false) : due2 v k tl = dueB v k r tl vv tw := by simp only [due_by, hk, Bool.false_and, Bool.or_false]
end
theorem lines74 : True := by
  (k_with "m_d2" => first | exact d2_1 (by assumption) | exact d2_2 (by assumption) (by assumption) | exact d2_3 (by assumption) (by assumption))
  (k_with "m_d3" => first | exact d3_1 (by assumption) | exact d3_2 (by assumption) (by assumption) | exact d3_3 (by assumption) (by assumption) | exact d3_4 (by assumption) (by assumption) (by assumption) (by assumption) (by assumption))
  (k_with "m_cutD" => (refine' cut_due_mk ?z114e ?z114F ?z114N; (case z114F => assumption); (case z114e => first | exact due_put (by k_extra "m_d2") | exact due_put (by k_extra "m_d3") | exact due_was (d3_5 (by assumption))); (case z114N => exact cb_drop (by assumption) (by k_extra "m_sub"))))
  (k_with "exec Assign" => ((with_reducible show wpAny _ _ (exec (Stmt.Assign [PySem.Expr.Name ("due" : Str) _] (PySem.Expr.BoolOp _ [_, PySem.Expr.BoolOp _ _ _] _) _) _) _ _ _); (fail_if_success (with_reducible show wpAny _ _ _ (CutF _) _ _)); k_here; k_dflt (refine' cut_due (Str.ofString "due") (due2 v k taN) ?z115F ?z115N ?_ ?_; (case z115F => k_asm); (case z115N => k_asm)); (intro h' tk' F' N'; (try k_sweep))))
  (k_with "exec If" => ((with_reducible show wpAny _ _ (exec (Stmt.If (PySem.Expr.Compare (PySem.Expr.Name ("kind" : Str) _) _ _ _) _ _ _) _) _ _ _); (fail_if_success (with_reducible show wpAny _ _ _ (CutF _) _ _)); k_here; k_dflt (refine' cut_due (Str.ofString "due") (dueB v k roN taN veN tiN) ?z116F ?z116N ?_ ?_; (case z116F => k_asm); (case z116N => k_asm)); (intro h' tk' F' N'; (try k_sweep))))
  trivial
theorem optv_none : OptV .none := .inl rfl
theorem optv_ref {a : Addr} : OptV (.ref a) := .inr ⟨a, rfl⟩
theorem lines75 : True := by
  (k_with "m_cut" => (refine' cut_opt_mk ?z117q ?z117o ?z117F ?z117N; (case z117q => first | exact optv_none | exact optv_ref); (case z117o => assumption); (case z117F => assumption); (case z117N => exact cb_drop (by assumption) (by k_extra "m_sub"))))
  (k_with "call ref" => (k_here; (with_reducible show wpAny _ _ (call (Value.ref 119) [_, _, _, _] _) _ _ _); k_dflt (refine' bpd_c _ _ _ _ _ _ _ _ _ _ _ _ _ _ _ ?z118v1 ?z118v2 _ _ _ _ _ _ _ _ _ _ _ _ _ _ _ _ _ ?z118k1 ?z118k2 ?z118k3 ?z118k4 ?z118k5 ?z118k6 ?z118k7 ?z118k8 ?_; (case z118k4 => k_asm); (case z118v1 => first | with_reducible assumption | exact optv_none | exact optv_ref); (case z118v2 => first | with_reducible assumption | exact optv_none | exact optv_ref); ((case z118k1 => k_asm); (case z118k2 => k_asm); (case z118k3 => k_asm); (try (case z118k4 => k_asm)); (case z118k5 => k_asm); (case z118k6 => first | exact rfl | assumption); (case z118k7 => ktr_room); (case z118k8 => ktr_units))); intro x' dx' tv' tk' tr' tt' u0' u1' u2' u3' u4' u5' u6' u7' u8' u9' ua' ub' h' tc' l1 l2 F' N'; (try simp only [AllLt, and_true] at l1); (try dsimp only); (try k_sweep)))
  trivial
section
variable {w : World} {mean : ExcName → Option Value} {mg mb : Str → Option Value}
  {dp un : Nat} {gd : Option (List Code)} {cn : Str} {cs : Scope} {a : Addr} {ccd : Value} {outer : List Env} {A₀ : Around} {base g₀ h₀ : Heap} {L : Addr} {m : Str → Option Value} {s : Shared} {Q E : Value → Shared → Prop} {news : List (Addr × Obj)}
  {x dx : Addr} {v : Int} {k r : Str} {tl : Array UInt8} {vv tw : Value} {tv tk tr tt u0 u1 u2 u3 u4 u5 u6 u7 u8 u9 ua ub : Tok}
theorem isr_use (B : Below A₀ base outer h₀) (F : Fr h₀ L s.heap m) (X : (Mine.hd.heap_1 w.params).In h₀) (N : News h₀ L s.heap news) (T : Top Mine.view (looseW Mine.view [Str.ofString "Bpdu"]) mean mg mb h₀)
  (XB : (Mine.hd.heap_1 w.params).In base) (TB : Top Mine.view (looseW Mine.view [Str.ofString "Bpdu"]) mean mg mb base) (D : KtsDicts (outer.filterMap (·.frame)) h₀) (T0 : KtsTurn (outer.filterMap (·.frame)) g₀ h₀) (hk : cs.kind = .function)
  (hd : dp + 20 < recursionLimit) (hu : un + 8 * 20 < cLine)
  (hx : (x, instObj 119 dx) ∈ news) (hdx : (dx, bpdD w.params v k r tl vv tw tv tk tr tt u0 u1 u2 u3 u4 u5 u6 u7 u8 u9 ua ub) ∈ news)
   (hk1 : PyData.strOk k = true) (hr1 : PyData.strOk r = true) (hvv : OptV vv) (htw : OptV tw)
  (ret : ∀ (h₀' h' : Heap) (tk' : Nat), KtsTurn (outer.filterMap (·.frame)) g₀ h₀' → Fr h₀' L h' m → News h₀' L h' news → Below A₀ base outer h₀' → (Mine.hd.heap_1 w.params).In h₀' → Top Mine.view (looseW Mine.view [Str.ofString "Bpdu"]) mean mg mb h₀' → KtsDicts (outer.filterMap (·.frame)) h₀' → Q (.bool (dueB v k r tl vv tw)) { s with heap := h', toks := tk' }) :
  wpAny (model (PySem.Challenge.rw_xm0978_01.prog) w) (ktrTop dp un gd cn cs L a ccd [] outer) (call (.ref 255) [.ref x]) Q E s := by
  refine CtrS.use B F X N T XB TB D T0 hk hd hu (isr_c _ _ _ _ _ _ _ _ _ _ _ _ _ _ _ _ _ _ _ _ _ _ _ _ _ _ _ _ _ hx hdx hk1 hr1 hvv htw) ?_
  rintro _ _ h₀' h' tk' ⟨rfl, rfl⟩ T' F' N' B' X' P' D'
  exact ret h₀' h' tk' T' F' N' B' X' P' D'
end
theorem lines76 : True := by
  (k_with "call ref" => (k_here; (with_reducible show wpAny _ _ (call (Value.ref 255) [Value.ref _]) _ _ _); k_dflt (refine' isr_use ?z119k1 ?z119k2 ?z119k3 ?z119k4 ?z119k5 ?z119XB ?z119TB ?z119D ?z119T0 ?z119k6 ?z119k7 ?z119k8 ?z119x ?z119d ?z119s1 ?z119s2 ?z119v1 ?z119v2 ?_; (case z119k4 => k_asm); (case z119x => k_mem); (case z119d => k_mem); (case z119s1 => assumption); (case z119s2 => assumption); (case z119v1 => first | with_reducible assumption | exact optv_none | exact optv_ref); (case z119v2 => first | with_reducible assumption | exact optv_none | exact optv_ref); ((case z119k1 => k_asm); (case z119k2 => k_asm); (case z119k3 => k_asm); (try (case z119k4 => k_asm)); (case z119k5 => k_asm); (case z119k6 => first | exact rfl | assumption); (case z119k7 => ktr_room); (case z119k8 => ktr_units)); (case z119XB => assumption); (case z119TB => assumption); (case z119D => assumption); (case z119T0 => first | assumption | exact KtsTurn.refl)); intro h₀' h' tk' T' F' N' B' X' P' D'; (try dsimp only); (try k_sweep)))
  trivial
theorem beq_self_t (b : Bool) : (b == b) = true := by cases b <;> rfl
set_option maxHeartbeats 2000000 in
theorem chk_c (w : World) (mean : ExcName → Option Value) (mg mb : Str → Option Value) (src : Addr) (o : Obj) (rest : List (Addr × Obj)) (v : Int) (k : Str) (tv tk : Tok)
   (ho : IsSrc o) (hrest : ∀ p ∈ rest, p.1 ≠ src) (hk1 : PyData.strOk k = true) :
   CtrS w mean mg mb 30 262 [.ref src, .int v tv, .str k tk] ((src, o) :: rest) (fun v news' => ∃ ex o', (v = .bool true ∧ IsSrc o' ∧ ex = []) ∧ news' = ex ++ (src, o') :: rest) := by
  k_extra "m_fill"
  unfold CtrS
  intro dp un gd cn cs a ccd outer A₀ base g₀ h₀ L m s Q E B F X N T XB TB D T0 hk hdp hun hret
  refine wpAny_call ?_
  k_dflt k_extra "m_enterS"
  k_steps
  all_goals first
    | k_extra "m_cut"
    | k_extra "m_cutD"
    | (refine' hret _ _ _ _ _ ⟨[], _, ⟨congrArg Value.bool ?e, ?ro, rfl⟩, rfl⟩ ?T ?F ?N ?B ?X ?P ?D; (case e => exact beq_self_t _); (case ro => assumption); (case T => assumption); (case F => assumption); (case N => (dsimp only [List.nil_append]; exact cb_drop (by assumption) (by k_extra "m_sub"))); (case B => assumption); (case X => assumption); (case P => assumption); (case D => assumption))
-- Wrong
theorem lines77 : True := by
  w_top off
  trivial
def BadVec (news : List (Addr × Obj)) (v : Value) : Prop := ∃ (tv b1 b2 pp : Addr) (x1 y1 c x2 y2 pr pn : Int) (t1 t2 t3 t4 t5 t6 t7 : Tok) (n0 n1 n2 n3 : Nat), v = .ref tv ∧
   (tv, tupOf [.ref b1, .int c t3, .ref b2, .ref pp] n0) ∈ news ∧ (b1, tupOf [.int x1 t1, .int y1 t2] n1) ∈ news ∧ (b2, tupOf [.int x2 t4, .int y2 t5] n2) ∈ news ∧ (pp, tupOf [.int pr t6, .int pn t7] n3) ∈ news ∧ BadV x1 y1 c x2 y2 pr pn
theorem badvec_mk {news : List (Addr × Obj)} {tv b1 b2 pp : Addr} {x1 y1 c x2 y2 pr pn : Int} {t1 t2 t3 t4 t5 t6 t7 : Tok} {n0 n1 n2 n3 : Nat}
   (h0 : (tv, tupOf [.ref b1, .int c t3, .ref b2, .ref pp] n0) ∈ news) (h1 : (b1, tupOf [.int x1 t1, .int y1 t2] n1) ∈ news) (h2 : (b2, tupOf [.int x2 t4, .int y2 t5] n2) ∈ news) (h3 : (pp, tupOf [.int pr t6, .int pn t7] n3) ∈ news) (h4 : BadV x1 y1 c x2 y2 pr pn) : BadVec news (.ref tv) :=
   ⟨tv, b1, b2, pp, x1, y1, c, x2, y2, pr, pn, t1, t2, t3, t4, t5, t6, t7, n0, n1, n2, n3, rfl, h0, h1, h2, h3, h4⟩
def isT (p : Addr × Obj) : Bool := match p.2.cls with
  | .type "tuple" => true
  | _ => false
theorem isT_tup {a : Addr} {vs : List Value} {n : Nat} : isT (a, tupOf vs n) = true := rfl
theorem badvec_filter {news : List (Addr × Obj)} {v : Value} (h : BadVec news v) : BadVec (news.filter isT) v := by
  obtain ⟨tv, b1, b2, pp, x1, y1, c, x2, y2, pr, pn, t1, t2, t3, t4, t5, t6, t7, n0, n1, n2, n3, rfl, h0, h1, h2, h3, h4⟩ := h
  exact badvec_mk (List.mem_filter.mpr ⟨h0, isT_tup⟩) (List.mem_filter.mpr ⟨h1, isT_tup⟩) (List.mem_filter.mpr ⟨h2, isT_tup⟩) (List.mem_filter.mpr ⟨h3, isT_tup⟩) h4
abbrev RWr (news : List (Addr × Obj)) : Value → List (Addr × Obj) → Prop := fun v news' => ∃ (l : Addr) (vals : List Value) (n : Nat) (exl : List (Addr × Obj)), v = .ref l ∧ (∀ x ∈ vals, BadVec exl x) ∧ vals.length = 12 ∧ (∀ p ∈ exl, isT p = true) ∧ news' = (l, listOf vals.toArray n) :: (news ++ exl)
theorem wr_R {news mid : List (Addr × Obj)} {vals : List Value} {n : Nat} {l : Addr} (hv : ∀ x ∈ vals, BadVec mid x) (hl : vals.length = 12) : RWr news (.ref l) ((l, listOf vals.toArray n) :: (news ++ mid.filter isT)) :=
  ⟨l, vals, n, mid.filter isT, rfl, fun x hx => badvec_filter (hv x hx), hl, fun p hp => (List.mem_filter.mp hp).2, rfl⟩
theorem wr_N {h₀ h : Heap} {L : Addr} {p0 : Addr × Obj} {all mid news : List (Addr × Obj)} (N : News h₀ L h (p0 :: all)) (hs : all = mid ++ news) : News h₀ L h (p0 :: (news ++ mid.filter isT)) := by
  subst hs
  intro p hp
  refine N p ?_
  rcases List.mem_cons.mp hp with rfl | hp
  · exact .head _
  · rcases List.mem_append.mp hp with hp | hp
    · exact .tail _ (List.mem_append.mpr (.inr hp))
    · exact .tail _ (List.mem_append.mpr (.inl (List.mem_filter.mp hp).1))
theorem sp_nil {α : Type} {l : List α} : l = [] ++ l := rfl
theorem sp_cons {α : Type} {a : α} {l e n : List α} (h : l = e ++ n) : a :: l = (a :: e) ++ n := congrArg (a :: ·) h
theorem lines78 : True := by
  (k_with "m_split" => first | with_reducible exact sp_nil | (with_reducible refine' sp_cons ?z120hsp; (case z120hsp => k_extra "m_split")))
  (k_with "m_bvs" => first | exact List.forall_mem_nil _ | (refine' List.forall_mem_cons.mpr ⟨badvec_mk ?z121h0 ?z121h1 ?z121h2 ?z121h3 ?z121h4, ?_⟩; (case z121h0 => k_mem); (case z121h1 => k_mem); (case z121h2 => k_mem); (case z121h3 => k_mem); (case z121h4 => (unfold BadV BadBr BadPo; decide)); k_extra "m_bvs"))
  trivial
/-- a mark: the lines below serve where it stands -/
def WMark : Prop := True
theorem led_let {P : Prop} {h₀ h : Heap} {L : Addr} {news : List (Addr × Obj)} (N : News h₀ L h news) (k : let nw := news; News h₀ L h nw → P) : P := k N
section
variable {prog : Program} {w : World} {M : Model} {A : Around} {E : Value → Shared → Prop} {s : Shared} {h₀ : Heap} {L a b : Addr} {m : Str → Option Value} {news : List (Addr × Obj)} {vs zs : List Value} {n k : Nat} {Q : Value → Shared → Prop}
theorem w_tuple (F : Fr h₀ L s.heap m) (N : News h₀ L s.heap news) (hz : vs.length ≤ sizeLine)
    (h : ∀ D h' tk, Fr h₀ L h' m → let nw := (D, tupOf vs 0) :: news; News h₀ L h' nw → Q (.ref D) { s with heap := h', toks := tk }) : wpAny M A (newTuple vs) Q E s :=
  kup_newTuple F N (fun D h' F' N' _ => h D h' s.toks F' N') hz
theorem w_list (F : Fr h₀ L s.heap m) (N : News h₀ L s.heap news) (hz : vs.length ≤ sizeLine)
    (h : ∀ D h' tk, Fr h₀ L h' m → let nw := (D, listOf vs.toArray 0) :: news; News h₀ L h' nw → Q (.ref D) { s with heap := h', toks := tk }) : wpAny M A (newList vs) Q E s :=
  newList_K F N (fun D h' F' N' _ => h D h' s.toks F' N') hz
theorem w_addT (F : Fr h₀ L s.heap m) (N : News h₀ L s.heap news) (ha : (a, tupOf vs n) ∈ news) (hb : (b, tupOf zs k) ∈ news) (hv : vs ≠ []) (hw : zs ≠ []) (hz : vs.length + zs.length ≤ 16384)
    (h : ∀ D h' tk, Fr h₀ L h' m → let nw := (D, tupOf (vs ++ zs) 0) :: news; News h₀ L h' nw → Q (.ref D) { s with heap := h', toks := tk }) : wpAny (model prog w) A (binaryOp .Add (.ref a) (.ref b)) Q E s :=
  kde_addT F N ⟨_, (N _ ha).1, rfl, n, rfl⟩ ⟨_, (N _ hb).1, rfl, k, rfl⟩ hv hw hz rfl fun D h' F' N' _ => h D h' s.toks F' N'
theorem w_addL (F : Fr h₀ L s.heap m) (N : News h₀ L s.heap news) (ha : (a, listOf vs.toArray n) ∈ news) (hb : (b, listOf zs.toArray k) ∈ news) (hz : vs.length + zs.length ≤ sizeLine)
    (h : ∀ D h' tk, Fr h₀ L h' m → let nw := (D, listOf (vs ++ zs).toArray 0) :: news; News h₀ L h' nw → Q (.ref D) { s with heap := h', toks := tk }) : wpAny (model prog w) A (binaryOp .Add (.ref a) (.ref b)) Q E s :=
  kmk_add_lit F N (PySem.IsL.isList (n := n) (N _ ha).1) (PySem.IsL.isList (n := k) (N _ hb).1) rfl (fun D h' F' N' _ => h D h' s.toks F' N') hz
end
theorem lines79 : True := by
  (k_with "m_wl" => (intro D' h' tk' F' nw' N'; (try k_sweep)))
  (k_with "newTuple" => (k_here; (with_reducible rename WMark => hwm); k_dflt (refine' w_tuple ?z123F ?z123N ?z123z ?_; (case z123F => k_asm); (case z123N => k_asm); (case z123z => exact Nat.le_of_ble_eq_true rfl)); k_extra "m_wl"))
  (k_with "newList" => (k_here; (with_reducible rename WMark => hwm); k_dflt (refine' w_list ?z124F ?z124N ?z124z ?_; (case z124F => k_asm); (case z124N => k_asm); (case z124z => exact Nat.le_of_ble_eq_true rfl)); k_extra "m_wl"))
  (k_with "binaryOp Add ref ref" => (k_here; (with_reducible rename WMark => hwm); k_dflt (first
  | (refine' w_addT ?z125F ?z125N ?z125a ?z125b ?z125v ?z125w ?z125z ?_; (case z125F => k_asm); (case z125N => k_asm); (case z125a => k_mem); (case z125b => k_mem); (case z125v => exact List.cons_ne_nil _ _); (case z125w => exact List.cons_ne_nil _ _); (case z125z => exact Nat.le_of_ble_eq_true rfl))
  | (refine' w_addL ?z125F ?z125N ?z125a ?z125b ?z125z ?_; (case z125F => k_asm); (case z125N => k_asm); (case z125a => k_mem); (case z125b => k_mem); (case z125z => exact Nat.le_of_ble_eq_true rfl))); k_extra "m_wl"))
  (k_with "subscriptTail Name Slice ref ref" => (k_here; (with_reducible rename WMark => hwm); (with_reducible show wpAny _ _ (subscriptTail _ (PySem.Expr.Slice (some _) none none _) (Value.ref _) (Value.ref _)) _ _ _); k_dflt (refine' tup_from ?z126F ?z126N ?z126m ?z126h1 ?z126ha ?z126z ?z126e ?_ ?z126s ?z126g; (case z126F => k_asm); (case z126N => k_asm); (case z126m => k_mem); (case z126h1 => decide); (case z126ha => exact Nat.le_of_ble_eq_true rfl); (case z126z => exact Nat.le_of_ble_eq_true rfl); (case z126e => kl_lit); (case z126s => with_unfolding_all rfl); (case z126g => kmk_pure)); intro D' h' F' N' l1; clear l1; (refine led_let N' ?_); (intro nw' N''); (clear N'); (try k_sweep)))
  (k_with "subscriptTail Name Slice ref ref" => (k_here; (with_reducible rename WMark => hwm); (with_reducible show wpAny _ _ (subscriptTail _ (PySem.Expr.Slice none (some _) none _) (Value.ref _) (Value.ref _)) _ _ _); k_dflt (refine' tup_upto ?z127F ?z127N ?z127m ?z127h1 ?z127ha ?z127z ?z127e ?_ ?z127s ?z127g; (case z127F => k_asm); (case z127N => k_asm); (case z127m => k_mem); (case z127h1 => decide); (case z127ha => exact Nat.le_of_ble_eq_true rfl); (case z127z => exact Nat.le_of_ble_eq_true rfl); (case z127e => kl_lit); (case z127s => with_unfolding_all rfl); (case z127g => kmk_pure)); intro D' h' F' N' l1; clear l1; (refine led_let N' ?_); (intro nw' N''); (clear N'); (try k_sweep)))
  trivial
set_option maxHeartbeats 4000000 in
theorem wrong_c (w : World) (mean : ExcName → Option Value) (mg mb : Str → Option Value) (news : List (Addr × Obj)) :
   Ctr w mean mg mb 4 283 [] news (RWr news) := by
  k_extra "m_fill"
  unfold Ctr
  intro dp un gd cn cs a ccd cl outer A₀ base h₀ L m s Q E B F X N T hk hdp hun hret
  refine wpAny_call ?_
  have hwm : WMark := trivial
  k_dflt cell_enter
  k_steps
  all_goals (refine' hret _ _ _ _ (wr_R (mid := _) ?hv ?hl) ?F (wr_N ?N ?hs); (case F => assumption); (case N => assumption); (case hs => k_extra "m_split"); (case hl => exact rfl); (case hv => k_extra "m_bvs"))
-- Vect
theorem lines80 : True := by
  w_top off
  trivial
section
variable {w : World} {mean : ExcName → Option Value} {mg mb : Str → Option Value}
  {dp un : Nat} {gd : Option (List Code)} {cn : Str} {cs : Scope} {a : Addr} {ccd : Value} {cl : List (Str × Addr)} {outer : List Env} {A₀ : Around} {base h₀ : Heap} {L : Addr} {m : Str → Option Value} {s : Shared} {Q E : Value → Shared → Prop}
  {news : List (Addr × Obj)} {src : Addr} {o : Obj} {g : Obj → List (Addr × Obj)}
theorem bridge_use (B : Below A₀ base outer h₀) (F : Fr h₀ L s.heap m) (X : (Mine.hd.heap_1 w.params).In h₀) (N : News h₀ L s.heap news) (T : Top Mine.view (looseW Mine.view [Str.ofString "Bpdu"]) mean mg mb h₀) (hk : cs.kind = .function)
  (U : UpdF src o news g) (ho : IsSrc o) (hd : dp + 3 < recursionLimit) (hu : un + 8 * 3 < cLine)
  (ret : ∀ (t : Addr) (x y : Int) (tx ty : Tok) (o' : Obj) (h' : Heap) (tk' : Nat), 0 ≤ x → x ≤ 65535 → 0 ≤ y → y ≤ 281474976710655 → IsSrc o' → (∀ p ∈ news, p.1 < t) → Fr h₀ L h' m → News h₀ L h' ((t, tupOf [.int x tx, .int y ty] 0) :: g o') → Q (.ref t) { s with heap := h', toks := tk' }) :
  wpAny (model (PySem.Challenge.rw_xm0978_01.prog) w) (ktrTop dp un gd cn cs L a ccd cl outer) (call (.ref 229) [.ref src]) Q E s := by
  refine Ctr.use (Ctr.place (P := fun v ex o' => ∃ (t : Addr) (x y : Int) (tx ty : Tok), v = .ref t ∧ 0 ≤ x ∧ x ≤ 65535 ∧ 0 ≤ y ∧ y ≤ 281474976710655 ∧ IsSrc o' ∧ ex = [(t, tupOf [.int x tx, .int y ty] 0)] ∧ ∀ p ∈ news, p.1 < t) U fun rest h1 h2 h3 => Ctr.mono (bridge_c _ _ _ _ _ _ rest ho h1) ?_) B F X N T hk hd hu ?_
  · rintro v n ⟨ex, o', ⟨t, x, y, tx, ty, e1, q1, q2, q3, q4, q5, e2, al⟩, e3⟩
    refine ⟨ex, o', ⟨t, x, y, tx, ty, e1, q1, q2, q3, q4, q5, e2, fun p hp => ?_⟩, e3⟩
    rcases h3 p hp with e | e
    · rw [e]; exact al.1
    · exact ktn_ltOf al.2 p e
  · rintro _ _ h' tk' ⟨_, o', ⟨t, x, y, tx, ty, rfl, q1, q2, q3, q4, q5, rfl, al⟩, rfl⟩ F' N'
    exact ret t x y tx ty o' h' tk' q1 q2 q3 q4 q5 al F' N'
end
theorem lines81 : True := by
  (k_with "call ref" => (k_here; (with_reducible show wpAny _ _ (call (Value.ref 229) [Value.ref _]) _ _ _); k_dflt (refine' bridge_use ?z128k1 ?z128k2 ?z128k3 ?z128k4 ?z128k5 ?z128k6 ?z128U ?z128o ?z128k7 ?z128k8 ?_; (case z128k4 => k_asm); (case z128U => k_updF); (case z128o => assumption); ((case z128k1 => k_asm); (case z128k2 => k_asm); (case z128k3 => k_asm); (try (case z128k4 => k_asm)); (case z128k5 => k_asm); (case z128k6 => first | exact rfl | assumption); (case z128k7 => ktr_room); (case z128k8 => ktr_units))); intro t' x' y' tx' ty' o' h' tk' ra' rb' rc' rd' ro' l1 F' N'; (try dsimp only at N'); (try k_lt l1); (try dsimp only); (try k_sweep)))
  trivial
abbrev RVec (src : Addr) (rest : List (Addr × Obj)) : Value → List (Addr × Obj) → Obj → Prop := fun v ex o' => ∃ (tv b1 b2 pp : Addr) (x1 y1 c x2 y2 pr pn q : Int) (t1 t2 t3 t4 t5 t6 t7 : Tok), v = .ref tv ∧ (0 ≤ x1 ∧ x1 ≤ 65535 ∧ 0 ≤ y1 ∧ y1 ≤ 281474976710655) ∧ (0 ≤ c ∧ c ≤ 4294967295) ∧ (0 ≤ x2 ∧ x2 ≤ 65535 ∧ 0 ≤ y2 ∧ y2 ≤ 281474976710655) ∧ (pr = 16 * q ∧ 0 ≤ q ∧ q < 16 ∧ 0 ≤ pn ∧ pn ≤ 4095) ∧ IsSrc o' ∧
  ex = [(tv, tupOf [.ref b1, .int c t3, .ref b2, .ref pp] 0), (pp, tupOf [.int pr t6, .int pn t7] 0), (b2, tupOf [.int x2 t4, .int y2 t5] 0), (b1, tupOf [.int x1 t1, .int y1 t2] 0)] ∧ @LT.lt Nat _ b1 b2 ∧ @LT.lt Nat _ b2 pp ∧ @LT.lt Nat _ pp tv ∧ @LT.lt Nat _ src b1 ∧ AllLt b1 rest
theorem lines82 : True := by
  (k_with "m_o" => (show @LT.lt Nat _ _ _; omega))
  trivial
theorem alt_le {a b : Addr} {l : List (Addr × Obj)} (h : AllLt a l) (e : a = b) : AllLt b l := e ▸ h
theorem lines83 : True := by
  (k_with "m_alt" => first | (simp only [*]; done) | assumption)
  trivial
set_option maxHeartbeats 2000000 in
theorem vect_c (w : World) (mean : ExcName → Option Value) (mg mb : Str → Option Value) (src : Addr) (o : Obj) (rest : List (Addr × Obj))
   (ho : IsSrc o) (hrest : ∀ p ∈ rest, p.1 ≠ src) :
   Ctr w mean mg mb 4 236 [.ref src] ((src, o) :: rest) (fun v news' => ∃ ex o', RVec src rest v ex o' ∧ news' = ex ++ (src, o') :: rest) := by
  k_extra "m_fill"
  unfold Ctr
  intro dp un gd cn cs a ccd cl outer A₀ base h₀ L m s Q E B F X N T hk hdp hun hret
  refine wpAny_call ?_
  k_dflt cell_enter
  k_steps
  all_goals (refine' hret _ _ _ _ ⟨_, _, ⟨_, _, _, _, _, _, _, _, _, _, _, _, _, _, _, _, _, _, _, rfl, ⟨?a1, ?a2, ?a3, ?a4⟩, ⟨?a5, ?a6⟩, ⟨?a7, ?a8, ?a9, ?b0⟩, ⟨?b1, ?b2, ?b3, ?b4, ?b5⟩, ?o, rfl, ?l1, ?l2, ?l3, ?l4, ?l5⟩, rfl⟩ ?F ?N; (case F => assumption); (case N => exact cb_drop (by assumption) (by (try dsimp only [List.cons_append, List.nil_append]); k_extra "m_sub")); (case o => assumption); (case a1 => assumption); (case a2 => assumption); (case a3 => assumption); (case a4 => assumption); (case a5 => assumption); (case a6 => assumption); (case a7 => assumption); (case a8 => assumption); (case a9 => assumption); (case b0 => assumption); (case b1 => assumption); (case b2 => assumption); (case b3 => assumption); (case b4 => assumption); (case b5 => assumption); (case l1 => k_extra "m_o"); (case l2 => k_extra "m_o"); (case l3 => k_extra "m_o"); (case l4 => k_extra "m_o"); (case l5 => k_extra "m_alt"))
section
variable {w : World} {mean : ExcName → Option Value} {mg mb : Str → Option Value}
  {dp un : Nat} {gd : Option (List Code)} {cn : Str} {cs : Scope} {a : Addr} {ccd : Value} {cl : List (Str × Addr)} {outer : List Env} {A₀ : Around} {base h₀ : Heap} {L : Addr} {m : Str → Option Value} {s : Shared} {Q E : Value → Shared → Prop}
  {news : List (Addr × Obj)} {src : Addr} {o : Obj} {g : Obj → List (Addr × Obj)}
theorem vect_use (B : Below A₀ base outer h₀) (F : Fr h₀ L s.heap m) (X : (Mine.hd.heap_1 w.params).In h₀) (N : News h₀ L s.heap news) (T : Top Mine.view (looseW Mine.view [Str.ofString "Bpdu"]) mean mg mb h₀) (hk : cs.kind = .function)
  (U : UpdF src o news g) (ho : IsSrc o) (hd : dp + 4 < recursionLimit) (hu : un + 8 * 4 < cLine)
  (ret : ∀ (tv b1 b2 pp : Addr) (x1 y1 c x2 y2 pr pn q : Int) (t1 t2 t3 t4 t5 t6 t7 : Tok) (o' : Obj) (h' : Heap) (tk' : Nat), 0 ≤ x1 → x1 ≤ 65535 → 0 ≤ y1 → y1 ≤ 281474976710655 → 0 ≤ c → c ≤ 4294967295 → 0 ≤ x2 → x2 ≤ 65535 → 0 ≤ y2 → y2 ≤ 281474976710655 → pr = 16 * q → 0 ≤ q → q < 16 → 0 ≤ pn → pn ≤ 4095 → IsSrc o' →
     (∀ p ∈ news, p.1 < b1) → @LT.lt Nat _ b1 b2 → @LT.lt Nat _ b2 pp → @LT.lt Nat _ pp tv → Fr h₀ L h' m →
     News h₀ L h' ((tv, tupOf [.ref b1, .int c t3, .ref b2, .ref pp] 0) :: (pp, tupOf [.int pr t6, .int pn t7] 0) :: (b2, tupOf [.int x2 t4, .int y2 t5] 0) :: (b1, tupOf [.int x1 t1, .int y1 t2] 0) :: g o') → Q (.ref tv) { s with heap := h', toks := tk' }) :
  wpAny (model (PySem.Challenge.rw_xm0978_01.prog) w) (ktrTop dp un gd cn cs L a ccd cl outer) (call (.ref 236) [.ref src]) Q E s := by
  refine Ctr.use (Ctr.place (P := fun v ex o' => ∃ rest, (∀ p ∈ news, p = (src, o) ∨ p ∈ rest) ∧ RVec src rest v ex o') U fun rest h1 h2 h3 => Ctr.mono (vect_c _ _ _ _ _ _ rest ho h1) ?_) B F X N T hk hd hu ?_
  · rintro v n ⟨ex, o', r, e3⟩
    exact ⟨ex, o', ⟨rest, h3, r⟩, e3⟩
  · rintro _ _ h' tk' ⟨_, o', ⟨rest, h3, tv, b1, b2, pp, x1, y1, c, x2, y2, pr, pn, q, t1, t2, t3, t4, t5, t6, t7, rfl, ⟨q1, q2, q3, q4⟩, ⟨q5, q6⟩, ⟨q7, q8, q9, q10⟩, ⟨q11, q12, q13, q14, q15⟩, ro, rfl, l1, l2, l3, l4, l5⟩, rfl⟩ F' N'
    refine ret tv b1 b2 pp x1 y1 c x2 y2 pr pn q t1 t2 t3 t4 t5 t6 t7 o' h' tk' q1 q2 q3 q4 q5 q6 q7 q8 q9 q10 q11 q12 q13 q14 q15 ro (fun p hp => ?_) l1 l2 l3 F' N'
    rcases h3 p hp with e | e
    · rw [e]; exact l4
    · exact ktn_ltOf l5 p e
end
-- Pool
theorem lines84 : True := by
  w_top off
  trivial
theorem bit_nn (c : Bool) : (0 : Int) ≤ if c = true then 1 else 0 := by cases c <;> decide
theorem src_pos {x A B : Int} (e : x = A * B) (hA : 0 ≤ A) (hB : 0 ≤ B) : 0 ≤ x := e ▸ Int.mul_nonneg hA hB
set_option maxHeartbeats 2000000 in
theorem pool_c (w : World) (mean : ExcName → Option Value) (mg mb : Str → Option Value) (news : List (Addr × Obj)) (l : Addr) (vs : List Value) (ns : List Int)
  (dp un : Nat) (gd : Option (List Code)) (cn : Str) (cs : Scope) (a : Addr) (ccd : Value) (cl : List (Str × Addr)) (outer : List Env) (A₀ : Around) (base h₀ : Heap) (L : Addr) (m : Str → Option Value) (s : Shared) (Q E : Value → Shared → Prop)
   (B : Below A₀ base outer h₀) (F : Fr h₀ L s.heap m) (X : (Mine.hd.heap_1 w.params).In h₀) (N : News h₀ L s.heap news) (T : Top Mine.view (looseW Mine.view [Str.ofString "Bpdu"]) mean mg mb h₀) (hk : cs.kind = .function)
   (hdp : dp + 4 < recursionLimit) (hun : un + 8 * 4 < cLine) (hl : base.IsList l vs.toArray) (hi : IntsAre vs ns) (hlay : (PyData.list (ns.map .int)).layable0 = true) (hfit : ns.length ≤ 63)
   (hret : ∀ (D : Addr) (o' : Obj) (h' : Heap) (tk' : Nat), IsSrc o' → (∀ p ∈ news, p.1 < D) → Fr h₀ L h' m → News h₀ L h' ((D, o') :: news) → Q (.ref D) { s with heap := h', toks := tk' }) :
   wpAny (model (PySem.Challenge.rw_xm0978_01.prog) w) (ktrTop dp un gd cn cs L a ccd cl outer) (call (.ref 203) [.ref l]) Q E s := by
  k_extra "m_fill"
  refine wpAny_call ?_
  k_dflt cell_enter
  k_steps
  all_goals (refine' hret _ _ _ _ (IsSrc.mk ?hx ?hy ?hz) ?l ?F ?N; (case F => assumption); (case N => assumption); (case l => assumption); (case hy => assumption); (case hz => assumption); (case hx => exact src_pos (by assumption) (by split <;> omega) (bit_nn _)))
-- Law1
theorem lines85 : True := by
  w_top off
  trivial
section
variable {w : World} {mean : ExcName → Option Value} {mg mb : Str → Option Value}
  {dp un : Nat} {gd : Option (List Code)} {cn : Str} {cs : Scope} {a : Addr} {ccd : Value} {cl : List (Str × Addr)} {outer : List Env} {A₀ : Around} {base h₀ : Heap} {L : Addr} {m : Str → Option Value} {s : Shared} {Q E : Value → Shared → Prop}
  {news : List (Addr × Obj)} {src lst : Addr} {o : Obj} {g : Obj → List (Addr × Obj)} {vals : List Value} {n dd : Nat} {f : Addr} {vs : List Value}
theorem useTrue (B : Below A₀ base outer h₀) (F : Fr h₀ L s.heap m) (X : (Mine.hd.heap_1 w.params).In h₀) (N : News h₀ L s.heap news) (T : Top Mine.view (looseW Mine.view [Str.ofString "Bpdu"]) mean mg mb h₀) (hk : cs.kind = .function)
  (C : Ctr w mean mg mb dd f vs news (fun v news' => v = .bool true ∧ news' = news)) (hd : dp + dd < recursionLimit) (hu : un + 8 * dd < cLine)
  (ret : ∀ (h' : Heap) (tk' : Nat), Fr h₀ L h' m → News h₀ L h' news → Q (.bool true) { s with heap := h', toks := tk' }) :
  wpAny (model (PySem.Challenge.rw_xm0978_01.prog) w) (ktrTop dp un gd cn cs L a ccd cl outer) (call (.ref f) vs) Q E s := by
  refine Ctr.use C B F X N T hk hd hu ?_
  rintro _ _ h' tk' ⟨rfl, rfl⟩ F' N'
  exact ret h' tk' F' N'
theorem useSrc (B : Below A₀ base outer h₀) (F : Fr h₀ L s.heap m) (X : (Mine.hd.heap_1 w.params).In h₀) (N : News h₀ L s.heap news) (T : Top Mine.view (looseW Mine.view [Str.ofString "Bpdu"]) mean mg mb h₀) (hk : cs.kind = .function)
  (U : UpdF src o news g) (C : ∀ rest, (∀ p ∈ rest, p.1 ≠ src) → Ctr w mean mg mb dd f vs ((src, o) :: rest) (fun v news' => ∃ ex o', (v = .bool true ∧ IsSrc o' ∧ ex = []) ∧ news' = ex ++ (src, o') :: rest)) (hd : dp + dd < recursionLimit) (hu : un + 8 * dd < cLine)
  (ret : ∀ (o' : Obj) (h' : Heap) (tk' : Nat), IsSrc o' → Fr h₀ L h' m → News h₀ L h' (g o') → Q (.bool true) { s with heap := h', toks := tk' }) :
  wpAny (model (PySem.Challenge.rw_xm0978_01.prog) w) (ktrTop dp un gd cn cs L a ccd cl outer) (call (.ref f) vs) Q E s := by
  refine Ctr.use (Ctr.place U fun rest h1 _ _ => C rest h1) B F X N T hk hd hu ?_
  rintro _ _ h' tk' ⟨_, o', ⟨rfl, ro', rfl⟩, rfl⟩ F' N'
  exact ret o' h' tk' ro' F' N'
theorem useTrueS (B : Below A₀ base [] h₀) (F : Fr h₀ L s.heap m) (X : (Mine.hd.heap_1 w.params).In h₀) (N : News h₀ L s.heap news) (T : Top Mine.view (looseW Mine.view [Str.ofString "Bpdu"]) mean mg mb h₀)
  (XB : (Mine.hd.heap_1 w.params).In base) (TB : Top Mine.view (looseW Mine.view [Str.ofString "Bpdu"]) mean mg mb base) (hk : cs.kind = .function)
  (C : CtrS w mean mg mb dd f vs news (fun v news' => v = .bool true ∧ news' = news)) (hd : dp + dd < recursionLimit) (hu : un + 8 * dd < cLine)
  (ret : ∀ (h' : Heap) (tk' : Nat), Fr h₀ L h' m → News h₀ L h' news → Q (.bool true) { s with heap := h', toks := tk' }) :
  wpAny (model (PySem.Challenge.rw_xm0978_01.prog) w) (ktrTop dp un gd cn cs L a ccd [] []) (call (.ref f) vs) Q E s := by
  refine CtrS.use0 B F X N T XB TB hk hd hu C ?_
  rintro _ _ h' tk' ⟨rfl, rfl⟩ F' N'
  exact ret h' tk' F' N'
theorem useSrcS (B : Below A₀ base [] h₀) (F : Fr h₀ L s.heap m) (X : (Mine.hd.heap_1 w.params).In h₀) (N : News h₀ L s.heap news) (T : Top Mine.view (looseW Mine.view [Str.ofString "Bpdu"]) mean mg mb h₀)
  (XB : (Mine.hd.heap_1 w.params).In base) (TB : Top Mine.view (looseW Mine.view [Str.ofString "Bpdu"]) mean mg mb base) (hk : cs.kind = .function)
  (U : UpdF src o news g) (C : ∀ rest, (∀ p ∈ rest, p.1 ≠ src) → CtrS w mean mg mb dd f vs ((src, o) :: rest) (fun v news' => ∃ ex o', (v = .bool true ∧ IsSrc o' ∧ ex = []) ∧ news' = ex ++ (src, o') :: rest)) (hd : dp + dd < recursionLimit) (hu : un + 8 * dd < cLine)
  (ret : ∀ (o' : Obj) (h' : Heap) (tk' : Nat), IsSrc o' → Fr h₀ L h' m → News h₀ L h' (g o') → Q (.bool true) { s with heap := h', toks := tk' }) :
  wpAny (model (PySem.Challenge.rw_xm0978_01.prog) w) (ktrTop dp un gd cn cs L a ccd [] []) (call (.ref f) vs) Q E s := by
  refine CtrS.use0 B F X N T XB TB hk hd hu (CtrS.place U fun rest h1 _ _ => C rest h1) ?_
  rintro _ _ h' tk' ⟨_, o', ⟨rfl, ro', rfl⟩, rfl⟩ F' N'
  exact ret o' h' tk' ro' F' N'
theorem tim_use (B : Below A₀ base outer h₀) (F : Fr h₀ L s.heap m) (X : (Mine.hd.heap_1 w.params).In h₀) (N : News h₀ L s.heap news) (T : Top Mine.view (looseW Mine.view [Str.ofString "Bpdu"]) mean mg mb h₀) (hk : cs.kind = .function)
  (U : UpdF src o news g) (ho : IsSrc o) (hd : dp + 24 < recursionLimit) (hu : un + 8 * 24 < cLine)
  (ret : ∀ (o' : Obj) (h' : Heap) (tk' : Nat), IsSrc o' → Fr h₀ L h' m → News h₀ L h' (g o') → Q (.bool true) { s with heap := h', toks := tk' }) :
  wpAny (model (PySem.Challenge.rw_xm0978_01.prog) w) (ktrTop dp un gd cn cs L a ccd cl outer) (call (.ref 248) [.ref src]) Q E s :=
  useSrc B F X N T hk U (fun rest hr => timR_c _ _ _ _ _ _ rest ho hr) hd hu ret
theorem tref_use (B : Below A₀ base [] h₀) (F : Fr h₀ L s.heap m) (X : (Mine.hd.heap_1 w.params).In h₀) (N : News h₀ L s.heap news) (T : Top Mine.view (looseW Mine.view [Str.ofString "Bpdu"]) mean mg mb h₀)
  (XB : (Mine.hd.heap_1 w.params).In base) (TB : Top Mine.view (looseW Mine.view [Str.ofString "Bpdu"]) mean mg mb base) (hk : cs.kind = .function)
  (U : UpdF src o news g) (ho : IsSrc o) (hd : dp + 8 < recursionLimit) (hu : un + 8 * 8 < cLine)
  (ret : ∀ (o' : Obj) (h' : Heap) (tk' : Nat), IsSrc o' → Fr h₀ L h' m → News h₀ L h' (g o') → Q (.bool true) { s with heap := h', toks := tk' }) :
  wpAny (model (PySem.Challenge.rw_xm0978_01.prog) w) (ktrTop dp un gd cn cs L a ccd [] []) (call (.ref 276) [.ref src]) Q E s :=
  useSrcS B F X N T XB TB hk U (fun rest hr => tref_c _ _ _ _ _ _ rest ho hr) hd hu ret
theorem chk_use {v : Int} {k : Str} {tv tk : Tok} (B : Below A₀ base [] h₀) (F : Fr h₀ L s.heap m) (X : (Mine.hd.heap_1 w.params).In h₀) (N : News h₀ L s.heap news) (T : Top Mine.view (looseW Mine.view [Str.ofString "Bpdu"]) mean mg mb h₀)
  (XB : (Mine.hd.heap_1 w.params).In base) (TB : Top Mine.view (looseW Mine.view [Str.ofString "Bpdu"]) mean mg mb base) (hk : cs.kind = .function)
  (U : UpdF src o news g) (ho : IsSrc o) (hs : PyData.strOk k = true) (hd : dp + 30 < recursionLimit) (hu : un + 8 * 30 < cLine)
  (ret : ∀ (o' : Obj) (h' : Heap) (tk' : Nat), IsSrc o' → Fr h₀ L h' m → News h₀ L h' (g o') → Q (.bool true) { s with heap := h', toks := tk' }) :
  wpAny (model (PySem.Challenge.rw_xm0978_01.prog) w) (ktrTop dp un gd cn cs L a ccd [] []) (call (.ref 262) [.ref src, .int v tv, .str k tk]) Q E s :=
  useSrcS B F X N T XB TB hk U (fun rest hr => chk_c _ _ _ _ _ _ rest _ _ _ _ ho hr hs) hd hu ret
theorem src_ne {h : Heap} {exl : List (Addr × Obj)} (N : News h₀ L h ((lst, listOf vals.toArray n) :: (src, o) :: exl)) (ho : IsSrc o) (hl : vals.length = 12) : @Ne Nat lst src := by
  rintro rfl
  obtain ⟨x, y, tx, ty, n', rfl, _⟩ := ho
  have h1 := (N _ (List.mem_cons_self ..)).1
  have h2 := (N _ (List.mem_cons_of_mem _ (List.mem_cons_self ..))).1
  dsimp only at h1 h2
  rw [h1] at h2
  have h3 := congrArg Obj.data (Option.some.inj h2)
  simp only [Data.seq.injEq] at h3
  have h4 := congrArg Array.size h3.1
  simp at h4
  omega
theorem src_off {h : Heap} {p0 : Addr × Obj} {exl : List (Addr × Obj)} (N : News h₀ L h (p0 :: (src, o) :: exl)) (ho : IsSrc o) (hx : ∀ p ∈ exl, isT p = true) : ∀ p ∈ exl, p.1 ≠ src := by
  rintro ⟨b, ob⟩ hp rfl
  obtain ⟨x, y, tx, ty, n', rfl, _⟩ := ho
  have h1 := (N _ (List.mem_cons_of_mem _ (List.mem_cons_of_mem _ hp))).1
  have h2 := (N _ (List.mem_cons_of_mem _ (List.mem_cons_self ..))).1
  dsimp only at h1 h2
  rw [h1] at h2
  have h3 := Option.some.inj h2
  subst h3
  have hz := hx _ hp
  have hf : isT (b, listOf [.int x tx, .int y ty].toArray n') = false := rfl
  rw [hf] at hz
  cases hz
theorem wrong_use (B : Below A₀ base outer h₀) (F : Fr h₀ L s.heap m) (X : (Mine.hd.heap_1 w.params).In h₀) (N : News h₀ L s.heap news) (T : Top Mine.view (looseW Mine.view [Str.ofString "Bpdu"]) mean mg mb h₀) (hk : cs.kind = .function)
  (ho : IsSrc o) (hm : (src, o) ∈ news) (hd : dp + 4 < recursionLimit) (hu : un + 8 * 4 < cLine)
  (ret : ∀ (l : Addr) (vals : List Value) (n : Nat) (exl : List (Addr × Obj)) (h' : Heap) (tk' : Nat), (∀ x ∈ vals, BadVec exl x) → vals.length = 12 → @Ne Nat l src → (∀ p ∈ exl, p.1 ≠ src) → Fr h₀ L h' m → News h₀ L h' ((src, o) :: (l, listOf vals.toArray n) :: exl) → Q (.ref l) { s with heap := h', toks := tk' }) :
  wpAny (model (PySem.Challenge.rw_xm0978_01.prog) w) (ktrTop dp un gd cn cs L a ccd cl outer) (call (.ref 283) []) Q E s := by
  refine Ctr.use (wrong_c _ _ _ _ news) B F X N T hk hd hu ?_
  rintro _ _ h' tk' ⟨l, vals, n, exl, rfl, hv, hl, hx, rfl⟩ F' N'
  have N2 : News h₀ L h' ((l, listOf vals.toArray n) :: (src, o) :: exl) := fun p hp => by
    refine N' p ?_
    rcases List.mem_cons.mp hp with rfl | hp
    · exact List.mem_cons_self ..
    rcases List.mem_cons.mp hp with rfl | hp
    · exact List.mem_cons_of_mem _ (List.mem_append.mpr (.inl hm))
    · exact List.mem_cons_of_mem _ (List.mem_append.mpr (.inr hp))
  exact ret l vals n exl h' tk' hv hl (src_ne N2 ho hl) (src_off N2 ho hx) F' (cb_drop N2 (fun p hp => by
    rcases List.mem_cons.mp hp with rfl | hp
    · exact List.mem_cons_of_mem _ (List.mem_cons_self ..)
    rcases List.mem_cons.mp hp with rfl | hp
    · exact List.mem_cons_self ..
    · exact List.mem_cons_of_mem _ (List.mem_cons_of_mem _ hp)))
theorem one_vec (exl : List (Addr × Obj)) (B : Below A₀ base outer h₀) (F : Fr h₀ L s.heap m) (X : (Mine.hd.heap_1 w.params).In h₀) (N : News h₀ L s.heap news) (T : Top Mine.view (looseW Mine.view [Str.ofString "Bpdu"]) mean mg mb h₀) (hk : cs.kind = .function)
  (U : UpdF src o news g) (ho : IsSrc o) (hm : (lst, listOf vals.toArray n) ∈ news) (hne : lst ≠ src) (hP : ∀ v ∈ vals, BadVec exl v) (ht : 1 ≤ vals.length) (ht2 : vals.length ≤ 1000) (hd : dp + 2 < recursionLimit) (hu : un + 8 * 2 < cLine)
  (ret : ∀ (tv b1 b2 pp : Addr) (x1 y1 c x2 y2 pr pn : Int) (t1 t2 t3 t4 t5 t6 t7 : Tok) (n0 n1 n2 n3 : Nat) (o' : Obj) (h' : Heap) (tk' : Nat),
     (tv, tupOf [.ref b1, .int c t3, .ref b2, .ref pp] n0) ∈ exl → (b1, tupOf [.int x1 t1, .int y1 t2] n1) ∈ exl → (b2, tupOf [.int x2 t4, .int y2 t5] n2) ∈ exl → (pp, tupOf [.int pr t6, .int pn t7] n3) ∈ exl → BadV x1 y1 c x2 y2 pr pn →
     IsSrc o' → Fr h₀ L h' m → News h₀ L h' (g o') → Q (.ref tv) { s with heap := h', toks := tk' }) :
  wpAny (model (PySem.Challenge.rw_xm0978_01.prog) w) (ktrTop dp un gd cn cs L a ccd cl outer) (call (.ref 217) [.ref src, .ref lst]) Q E s := by
  refine one_use (BadVec exl) B F X N T hk U ho hm hne hP ht ht2 hd hu ?_
  rintro _ o' h' tk' ⟨tv, b1, b2, pp, x1, y1, c, x2, y2, pr, pn, t1, t2, t3, t4, t5, t6, t7, n0, n1, n2, n3, rfl, q0, q1, q2, q3, q4⟩ ro' F' N'
  exact ret tv b1 b2 pp x1 y1 c x2 y2 pr pn t1 t2 t3 t4 t5 t6 t7 n0 n1 n2 n3 o' h' tk' q0 q1 q2 q3 q4 ro' F' N'
end
-- Law2
theorem lines86 : True := by
  w_top off
  (k_with "call ref" => (k_here; (with_reducible show wpAny _ _ (call (Value.ref 203) [Value.ref _]) _ _ _); k_dflt (refine' pool_c _ _ _ _ _ _ _ _ _ _ _ _ _ _ _ _ _ _ _ _ _ _ _ _ _ ?z131k1 ?z131k2 ?z131k3 ?z131k4 ?z131k5 ?z131k6 ?z131k7 ?z131k8 ?z131hl ?z131hi ?z131hy ?z131hf ?_; (case z131k4 => k_asm); ((case z131k1 => k_asm); (case z131k2 => k_asm); (case z131k3 => k_asm); (try (case z131k4 => k_asm)); (case z131k5 => k_asm); (case z131k6 => first | exact rfl | assumption); (case z131k7 => ktr_room); (case z131k8 => ktr_units)); (case z131hl => assumption); (case z131hi => assumption); (case z131hy => assumption); (case z131hf => omega)); intro D' o' h' tk' ro' l1 F' N'; (try k_lt l1); (try dsimp only); (try k_sweep)))
  (k_with "call ref" => (k_here; (with_reducible show wpAny _ _ (call (Value.ref 236) [Value.ref _]) _ _ _); k_dflt (refine' vect_use ?z132k1 ?z132k2 ?z132k3 ?z132k4 ?z132k5 ?z132k6 ?z132U ?z132o ?z132k7 ?z132k8 ?_; (case z132k4 => k_asm); (case z132U => k_updF); (case z132o => assumption); ((case z132k1 => k_asm); (case z132k2 => k_asm); (case z132k3 => k_asm); (try (case z132k4 => k_asm)); (case z132k5 => k_asm); (case z132k6 => first | exact rfl | assumption); (case z132k7 => ktr_room); (case z132k8 => ktr_units))); intro tv' b1' b2' pp' x1' y1' c' x2' y2' pr' pn' q' t1' t2' t3' t4' t5' t6' t7' o' h' tk' a1' a2' a3' a4' a5' a6' a7' a8' a9' b0' b1' b2' b3' b4' b5' ro' l1 l2 l3 l4 F' N'; (try dsimp only at N'); (try k_lt l1); (try dsimp only); (try k_sweep)))
  (k_with "call ref" => (k_here; (with_reducible show wpAny _ _ (call (Value.ref 243) [Value.ref _]) _ _ _); k_dflt (refine' useTrue ?z133k1 ?z133k2 ?z133k3 ?z133k4 ?z133k5 ?z133k6 (vecR_c _ _ _ _ _ _ _ _ _ _ _ _ _ _ _ _ _ _ _ _ _ _ _ _ _ _ _ _ ?z133v ?z133m1 ?z133m2 ?z133m3 ?z133x0 ?z133x1 ?z133x2 ?z133x3 ?z133x4 ?z133x5 ?z133x6 ?z133x7 ?z133x8 ?z133x9 ?z133q ?z133y0 ?z133y1 ?z133y2 ?z133y3) ?z133k7 ?z133k8 ?_; (case z133k4 => k_asm); (case z133v => k_mem); (case z133m1 => k_mem); (case z133m2 => k_mem); (case z133m3 => k_mem); (case z133q => assumption); (case z133x0 => assumption); (case z133x1 => assumption); (case z133x2 => assumption); (case z133x3 => assumption); (case z133x4 => assumption); (case z133x5 => assumption); (case z133x6 => assumption); (case z133x7 => assumption); (case z133x8 => assumption); (case z133x9 => assumption); (case z133y0 => assumption); (case z133y1 => assumption); (case z133y2 => assumption); (case z133y3 => assumption); ((case z133k1 => k_asm); (case z133k2 => k_asm); (case z133k3 => k_asm); (try (case z133k4 => k_asm)); (case z133k5 => k_asm); (case z133k6 => first | exact rfl | assumption); (case z133k7 => ktr_room); (case z133k8 => ktr_units))); intro h' tk' F' N'; (try dsimp only); (try k_sweep)))
  (k_with "call ref" => (k_here; (with_reducible show wpAny _ _ (call (Value.ref 248) [Value.ref _]) _ _ _); k_dflt (refine' tim_use ?z134k1 ?z134k2 ?z134k3 ?z134k4 ?z134k5 ?z134k6 ?z134U ?z134o ?z134k7 ?z134k8 ?_; (case z134k4 => k_asm); (case z134U => k_updF); (case z134o => assumption); ((case z134k1 => k_asm); (case z134k2 => k_asm); (case z134k3 => k_asm); (try (case z134k4 => k_asm)); (case z134k5 => k_asm); (case z134k6 => first | exact rfl | assumption); (case z134k7 => ktr_room); (case z134k8 => ktr_units))); intro o' h' tk' ro' F' N'; (try dsimp only at N'); (try dsimp only); (try k_sweep)))
  (k_with "call ref" => (k_here; (with_reducible show wpAny _ _ (call (Value.ref 276) [Value.ref _]) _ _ _); k_dflt (refine' tref_use ?z135k1 ?z135k2 ?z135k3 ?z135k4 ?z135k5 ?z135XB ?z135TB ?z135k6 ?z135U ?z135o ?z135k7 ?z135k8 ?_; (case z135k4 => k_asm); (case z135U => k_updF); (case z135o => assumption); ((case z135k1 => k_asm); (case z135k2 => k_asm); (case z135k3 => k_asm); (try (case z135k4 => k_asm)); (case z135k5 => k_asm); (case z135k6 => first | exact rfl | assumption); (case z135k7 => ktr_room); (case z135k8 => ktr_units)); (case z135XB => assumption); (case z135TB => assumption)); intro o' h' tk' ro' F' N'; (try dsimp only at N'); (try dsimp only); (try k_sweep)))
  (k_with "call ref" => (k_here; (with_reducible show wpAny _ _ (call (Value.ref 262) [Value.ref _, Value.int _ _, Value.str _ _]) _ _ _); k_dflt (refine' chk_use ?z136k1 ?z136k2 ?z136k3 ?z136k4 ?z136k5 ?z136XB ?z136TB ?z136k6 ?z136U ?z136o ?z136s ?z136k7 ?z136k8 ?_; (case z136k4 => k_asm); (case z136U => k_updF); (case z136o => assumption); (case z136s => decide +kernel); ((case z136k1 => k_asm); (case z136k2 => k_asm); (case z136k3 => k_asm); (try (case z136k4 => k_asm)); (case z136k5 => k_asm); (case z136k6 => first | exact rfl | assumption); (case z136k7 => ktr_room); (case z136k8 => ktr_units)); (case z136XB => assumption); (case z136TB => assumption)); intro o' h' tk' ro' F' N'; (try dsimp only at N'); (try dsimp only); (try k_sweep)))
  (k_with "call ref" => (k_here; (with_reducible show wpAny _ _ (call (Value.ref 283) []) _ _ _); k_dflt (refine' wrong_use ?z137k1 ?z137k2 ?z137k3 ?z137k4 ?z137k5 ?z137k6 ?z137o ?z137m ?z137k7 ?z137k8 ?_; (case z137k4 => k_asm); (case z137o => assumption); (case z137m => k_mem); ((case z137k1 => k_asm); (case z137k2 => k_asm); (case z137k3 => k_asm); (try (case z137k4 => k_asm)); (case z137k5 => k_asm); (case z137k6 => first | exact rfl | assumption); (case z137k7 => ktr_room); (case z137k8 => ktr_units))); intro l' vals' n' exl' h' tk' hv' hn' ne' of' F' N'; (try dsimp only); (try k_sweep)))
  (k_with "call ref" => (k_here; (with_reducible show wpAny _ _ (call (Value.ref 217) [Value.ref _, Value.ref _]) _ _ _); (rename ∀ x ∈ _, BadVec _ x => hbv); k_dflt (refine' one_vec _ ?z138k1 ?z138k2 ?z138k3 ?z138k4 ?z138k5 ?z138k6 ?z138U ?z138o ?z138m ?z138ne ?z138P ?z138t1 ?z138t2 ?z138k7 ?z138k8 ?_; (case z138P => exact hbv); (case z138k4 => k_asm); (case z138m => k_mem); k_dflt ((case z138k1 => k_asm); (case z138k2 => k_asm); (case z138k3 => k_asm); (case z138k5 => k_asm); (case z138k6 => first | exact rfl | assumption); (case z138U => k_updF); (case z138o => assumption); (case z138ne => k_ne); (case z138t1 => k_extra "m_len"); (case z138t2 => k_extra "m_len"); (case z138k7 => ktr_room); (case z138k8 => ktr_units))); intro tv' b1' b2' pp' x1' y1' c' x2' y2' pr' pn' t1' t2' t3' t4' t5' t6' t7' n0' n1' n2' n3' o' h' tk' e0' e1' e2' e3' hb' ro' F' N'; (try dsimp only at N'); (try dsimp only); (try k_sweep)))
  (k_with "call ref" => (k_here; (with_reducible show wpAny _ _ (call (Value.ref 269) [Value.ref _]) _ _ _); k_dflt (refine' useTrueS ?z139k1 ?z139k2 ?z139k3 ?z139k4 ?z139k5 ?z139XB ?z139TB ?z139k6 (vref_c _ _ _ _ _ _ _ _ _ _ _ _ _ _ _ _ _ _ _ _ _ _ _ _ _ _ _ ?z139v ?z139m1 ?z139m2 ?z139m3 ?z139hb) ?z139k7 ?z139k8 ?_; (case z139k4 => k_asm); (case z139hb => assumption); (case z139v => k_mem); (case z139m1 => k_mem); (case z139m2 => k_mem); (case z139m3 => k_mem); ((case z139k1 => k_asm); (case z139k2 => k_asm); (case z139k3 => k_asm); (try (case z139k4 => k_asm)); (case z139k5 => k_asm); (case z139k6 => first | exact rfl | assumption); (case z139k7 => ktr_room); (case z139k8 => ktr_units)); (case z139XB => assumption); (case z139TB => assumption)); intro h' tk' F' N'; (try dsimp only); (try k_sweep)))
  trivial
theorem law_cut {M : Model} {A : Around} {t : Sem Flow} {Q : Flow → Shared → Prop} {E : Value → Shared → Prop} {s : Shared} {h₀ : Heap} {L : Addr} {m : Str → Option Value} (_F : Fr h₀ L s.heap m)
   (h : wpAny M A t (CutF fun fl s' => fl = .ret (.bool true) ∧ ∃ h' tk m', s' = { s with heap := h', toks := tk } ∧ Fr h₀ L h' m') E s)
   (k : ∀ h' tk m', Fr h₀ L h' m' → Q (.ret (.bool true)) { s with heap := h', toks := tk }) : wpAny M A t Q E s := by
  refine wpAny_mono h ?_ fun _ _ x => x
  rintro _ _ ⟨rfl, h', tk, m', rfl, F⟩
  exact k h' tk m' F
theorem law_fin {s : Shared} {h₀ h' : Heap} {L : Addr} {m : Str → Option Value} {tk : Nat} (F : Fr h₀ L h' m) : CutF (fun fl s' => fl = .ret (.bool true) ∧ ∃ h' tk m', s' = { s with heap := h', toks := tk } ∧ Fr h₀ L h' m') (.ret (.bool true)) { s with heap := h', toks := tk } := ⟨rfl, h', tk, m, rfl, F⟩
section
variable {M : Model} {A : Around} {E : Value → Shared → Prop} {s : Shared} {h₀ : Heap} {L src : Addr} {m : Str → Option Value} {news : List (Addr × Obj)} {o : Obj} {g : Obj → List (Addr × Obj)} {st : Stmt} {env : Env} {Q : Flow → Shared → Prop} {x : Str}
theorem cut_for (x : Str) (_F : Fr h₀ L s.heap m) (_N : News h₀ L s.heap news) (_ho : IsSrc o) (_hm : (src, o) ∈ news) (_U : UpdF src o news g)
   (k : ∀ h' tk o' u, IsSrc o' → Fr h₀ L h' (fun y => if y = x then u else m y) → News h₀ L h' (g o') → Q .next { s with heap := h', toks := tk })
   (h : wpAny M A (exec st env) (CutF fun f s' => f = .next ∧ ∃ h' tk o' u, IsSrc o' ∧ s' = { s with heap := h', toks := tk } ∧ Fr h₀ L h' (fun y => if y = x then u else m y) ∧ News h₀ L h' (g o')) E s) : wpAny M A (exec st env) Q E s := by
  refine wpAny_mono h ?_ fun _ _ x => x
  rintro _ s' ⟨rfl, h', tk, o', u, q1, rfl, q3, q4⟩
  exact k h' tk o' u q1 q3 q4
theorem cut_for_mk {h' : Heap} {tk : Nat} {o' : Obj} {m' : Str → Option Value} {u : Option Value} (e : m' = fun y => if y = x then u else m y) (q2 : IsSrc o') (q3 : Fr h₀ L h' m') (q4 : News h₀ L h' (g o')) :
   CutF (fun f s' => f = .next ∧ ∃ h' tk o' u, IsSrc o' ∧ s' = { s with heap := h', toks := tk } ∧ Fr h₀ L h' (fun y => if y = x then u else m y) ∧ News h₀ L h' (g o')) .next { s with heap := h', toks := tk } := ⟨rfl, h', tk, o', u, q2, rfl, e ▸ q3, q4⟩
theorem ite_drop {x : Str} {a b : Option Value} {f m : Str → Option Value} (e : f = fun y => if y = x then b else m y) : (fun y => if y = x then a else f y) = fun y => if y = x then a else m y := by
  subst e
  funext y
  by_cases h : y = x <;> simp [h]
end
theorem lines87 : True := by
  (k_with "exec For Name List cons nil" => ((with_reducible show wpAny _ _ (exec (Stmt.For (PySem.Expr.Name _ _) (PySem.Expr.List _ _) _ [] _) _) _ _ _); (fail_if_success (with_reducible show wpAny _ _ _ (CutF _) _ _)); k_here; k_dflt (refine' cut_for (Str.ofString "kind") ?z140F ?z140N ?z140o ?z140m ?z140U ?_ ?_; (case z140F => k_asm); (case z140N => k_asm); (case z140o => assumption); (case z140m => k_mem); (case z140U => k_updF)); (intro h' tk' o' u' ro' F' N'; (try dsimp only at N'); (try dsimp only); (try k_sweep))))
  trivial
section
variable {prog : Program} {w : World} {A : Around} {E : Value → Shared → Prop} {s : Shared} {env : Env} {h₀ : Heap} {x : Str} {body : List Stmt} {Q : Flow → Shared → Prop}
theorem range_src {r src : Addr} {a₀ b₀ : Int} {t₀ u₀ v₀ : Tok} {n : Nat} {m₀ : Str → Option Value} {news : List (Addr × Obj)} {o : Obj} (rest : List (Addr × Obj)) (stored : List Str)
    (hh : A.handled = none) (hr : IsRange s.heap r a₀ b₀ 1 t₀ u₀ v₀) (hsmall : Builtin.Range.small a₀ b₀ 1 = true) (hn : Builtin.Range.rangeSize a₀ b₀ 1 = (n : Int)) (F : Fr h₀ env.locals s.heap m₀) (N₀ : News h₀ env.locals s.heap news) (hs : ∀ p ∈ (src, o) :: rest, p ∈ news) (ho : IsSrc o)
    (turn : ∀ k t (u : Str → Option Value) h tk I oI o', a₀ ≤ k → k < a₀ + (n : Int) → IsSrc o' → @LT.lt Nat _ src I → (∀ p ∈ rest, p.1 < I) → Fr h₀ env.locals h (fun y => if y = x then some (.int k t) else if stored.contains y then u y else m₀ y) → News h₀ env.locals h ((I, oI) :: (src, o') :: rest) →
      wpAny (model prog w) A (execs body env) (CutF fun f s₂ => f = .next ∧ ∃ h' tk' m' o'', IsSrc o'' ∧ s₂ = { s with heap := h', toks := tk' } ∧ Fr h₀ env.locals h' m' ∧ News h₀ env.locals h' ((I, oI) :: (src, o'') :: rest) ∧ ∀ y, y ≠ x → stored.contains y = false → m' y = m₀ y) E { s with heap := h, toks := tk })
    (done : ∀ (u : Str → Option Value) h tk o', IsSrc o' → Fr h₀ env.locals h (fun y => if y = x then u y else if stored.contains y then u y else m₀ y) → News h₀ env.locals h ((src, o') :: rest) → Q .next { s with heap := h, toks := tk }) :
    wpAny (model prog w) A (pyIter (.ref r)) (fun it s₂ => LoopAtV prog w A h₀ env x body Q E it s₂) E s := by
  have N : News h₀ env.locals s.heap ((src, o) :: rest) := fun p hp => N₀ p (hs p hp)
  have lt0 : ∀ p ∈ (src, o) :: rest, p.1 < s.heap.objs.size := fun p hp => Heap.lt_size (N p hp).1
  have hnew : h₀.get? s.heap.objs.size = none := next_is_new F
  refine wpAny_pyIter_range hr hsmall ?_
  have W : Walks prog w A s.heap.objs.size [s.heap.objs.size] [s.heap.objs.size] n (fun i v => i < n ∧ ∃ t, v = .int (a₀ + i * 1) t)
      (fun i h => IsRangeIter h s.heap.objs.size (a₀ + (i : Nat) * 1) ((n : Int) - (i : Nat)) 1) := (Walks.range hh _ a₀ 1 n).bound
  let J : Nat → (Str → Option Value) → List (Addr × Obj) → Prop := fun _ m₁ news₁ => (∃ o', IsSrc o' ∧ news₁ = (src, o') :: rest) ∧ ∀ y, y ≠ x → stored.contains y = false → m₁ y = m₀ y
  refine ⟨s.heap.objs.size, _, _, n, _, _, m₀, (src, o) :: rest, J, rfl, W, ?_, ?_, ?_, (by show IsRangeIter _ _ _ _ _; rw [hn]; simpa using Heap.get?_push_size _ rfl), F.push _, (fun p hp => ⟨Heap.get?_push_of_some _ (N p hp).1, (N p hp).2⟩), ⟨⟨o, ho, rfl⟩, fun _ _ _ => rfl⟩, ?_, ?_⟩
  · intro hm
    exact absurd F.ns.lt ((List.mem_singleton.mp hm) ▸ Nat.lt_irrefl _)
  · intro b hb
    rw [List.mem_singleton.mp hb]
    exact hnew
  · intro p hp hI
    exact absurd (lt0 p hp) ((List.mem_singleton.mp hI) ▸ Nat.lt_irrefl _)
  · rintro i v m₁ news₁ s₁ own ⟨hh', tk', rfl⟩ hin ⟨_, t, rfl⟩ ⟨⟨o', ho', rfl⟩, hJ⟩ hoff h5 _ h7 hst F₁ N₁
    have e : (fun y => if y = x then some (Value.int (a₀ + i * 1) t) else m₁ y) = fun y => if y = x then some (Value.int (a₀ + i * 1) t) else if stored.contains y then m₁ y else m₀ y := by
      funext y
      by_cases h1 : y = x
      · simp [h1]
      · simp only [if_neg h1]
        cases h2 : stored.contains y with
        | true => simp
        | false => simp only [Bool.false_eq_true, if_false]; exact hJ y h1 h2
    rw [e] at F₁
    obtain ⟨oI, hoI⟩ : ∃ oI, hh'.get? s.heap.objs.size = some oI := ⟨_, hst⟩
    have own1 : ∀ p ∈ own, p = (s.heap.objs.size, oI) := fun p hp => by
      have a := N₁ p (List.mem_append.mpr (.inl hp))
      have b : p.1 = s.heap.objs.size := List.mem_singleton.mp (h5 p hp)
      have c := a.1
      rw [b] at c
      exact Prod.ext b (Option.some.inj (c.symm.trans hoI))
    have NI : News h₀ env.locals hh' ((s.heap.objs.size, oI) :: (src, o') :: rest) := fun p hp => by
      rcases List.mem_cons.mp hp with rfl | hp
      · exact N₁ _ (List.mem_append.mpr (.inl (h7 _ (List.mem_singleton.mpr rfl) hnew oI hoI)))
      · exact N₁ p (List.mem_append.mpr (.inr hp))
    refine wpAny_mono (turn (a₀ + i * 1) t m₁ hh' tk' s.heap.objs.size oI o' (by omega) (by omega) ho' (lt0 _ (List.mem_cons_self ..)) (fun p hp => lt0 p (List.mem_cons_of_mem _ hp)) F₁ NI) ?_ fun _ _ e => e
    rintro f s₂ ⟨rfl, h', tk, m', o'', ro'', rfl, F', N', hm⟩
    refine .next ⟨rfl, h', tk, m', (src, o'') :: rest, rfl, F', fun p hp => ?_, fun p hp => ?_, ⟨⟨o'', ro'', rfl⟩, hm⟩⟩
    · rcases List.mem_append.mp hp with hp | hp
      · obtain rfl := own1 p hp
        exact N' _ (List.mem_cons_self ..)
      · exact N' p (List.mem_cons_of_mem _ hp)
    · rcases List.mem_cons.mp hp with rfl | hp
      · exact hoff (src, o') (List.mem_cons_self ..)
      · exact hoff p (List.mem_cons_of_mem _ hp)
  · rintro h' tk m' news' F' N' _ ⟨⟨o', ho', rfl⟩, hJ⟩
    refine done m' h' tk o' ho' ?_ N'
    have e : (fun y => if y = x then m' y else if stored.contains y then m' y else m₀ y) = m' := by
      funext y
      by_cases h1 : y = x
      · simp [h1]
      · simp only [if_neg h1]
        cases h2 : stored.contains y with
        | true => simp
        | false => simp only [Bool.false_eq_true, if_false]; exact (hJ y h1 h2).symm
    rw [e]
    exact F'
theorem turn_mk {h₀ h' : Heap} {L I src : Addr} {oI o'' : Obj} {rest : List (Addr × Obj)} {stored : List Str} {m₀ m' : Str → Option Value} {tk' : Nat} (ro : IsSrc o'') (F' : Fr h₀ L h' m') (N' : News h₀ L h' ((I, oI) :: (src, o'') :: rest)) (hm : ∀ y, y ≠ x → stored.contains y = false → m' y = m₀ y) :
    CutF (fun f s₂ => f = .next ∧ ∃ h' tk' m' o'', IsSrc o'' ∧ s₂ = { s with heap := h', toks := tk' } ∧ Fr h₀ L h' m' ∧ News h₀ L h' ((I, oI) :: (src, o'') :: rest) ∧ ∀ y, y ≠ x → stored.contains y = false → m' y = m₀ y) .next { s with heap := h', toks := tk' } := ⟨rfl, h', tk', m', o'', ro, rfl, F', N', hm⟩
end
theorem frm1 {x : Str} {stored : List Str} {v : Option Value} {u m₀ : Str → Option Value} : ∀ y, y ≠ x → stored.contains y = false → (fun y => if y = x then v else if stored.contains y then u y else m₀ y) y = m₀ y := by
  intro y h1 h2
  simp only [if_neg h1, h2, Bool.false_eq_true, if_false]
theorem frm2 {x k : Str} {v c : Option Value} {u m₀ : Str → Option Value} : ∀ y, y ≠ x → [k].contains y = false → (fun y => if y = k then c else (fun y => if y = x then v else if [k].contains y then u y else m₀ y) y) y = m₀ y := by
  intro y h1 h2
  have h3 : y ≠ k := by
    rintro rfl
    simp at h2
  simp only [if_neg h1, if_neg h3, h2, Bool.false_eq_true, if_false]
local macro_rules | `(tactic| w_nolog (first | $_a:tacticSeq | $_b:tacticSeq)) => `(tactic| skip)
theorem lines88 : True := by
  (k_with "pyIter ref" => ((with_reducible show wpAny _ _ (pyIter (Value.ref _)) (fun it s₂ => LoopAtV _ _ _ _ _ _ _ _ _ it s₂) _ _); k_here; (rename IsRange _ _ _ _ _ _ _ _ => rgX); k_dflt (first
  | (refine' range_src _ [Str.ofString "kind"] ?z141hh rgX ?z141sm ?z141hn ?z141F ?z141N (fun _ h => h) ?z141ho ?_ ?_; (case z141N => assumption); (case z141ho => assumption))
  | (refine' range_src [] [Str.ofString "kind"] ?z141hh rgX ?z141sm ?z141hn ?z141F ?z141N ?z141hs ?z141ho ?_ ?_; (case z141N => assumption); (case z141ho => assumption); (case z141hs => k_extra "m_sub"))); k_dflt ((case z141hh => rfl); (case z141sm => first | rfl | decide); (case z141hn => first | exact (rfl : _ = ((2 : Nat) : Int)) | exact (rfl : _ = ((7 : Nat) : Int)) | exact (rfl : _ = ((4 : Nat) : Int))); (case z141F => assumption)); rotate_left; (intro u' h' tk' o' ro' F' N'; (try dsimp only)); rotate_right; (intro k' t' u' h' tk' I' oI' o' a' b' ro' lI' lR' F' N'; (try dsimp only))))
  (k_with "m_turn" => (refine' turn_mk ?z142o ?z142F ?z142N ?z142m; (case z142o => assumption); (case z142F => assumption); (case z142N => exact cb_drop (by assumption) (by k_extra "m_sub")); (case z142m => first | exact frm1 | exact frm2)))
  (k_with "m_cutF" => (refine' cut_for_mk ?z143e ?z143o ?z143F ?z143N; (case z143o => assumption); (case z143F => assumption); (case z143e => first | exact ite_drop (ite_drop (ite_drop rfl)) | exact ite_drop rfl); (case z143N => exact cb_drop (by assumption) (by k_extra "m_sub"))))
  trivial
set_option maxHeartbeats 4000000 in
theorem law_t : PySem.Challenge.rw_xm0978_01.Holds := hd (by
  k_go0
  refine law_cut (by assumption) ?_ ?_
  rotate_left
  · intro h' tk m' F'
    (try dsimp only)
    wrow_close
  (all_goals try k_fold)
  k_steps
  all_goals first
    | exact law_fin (by assumption)
    | k_extra "m_cutF"
    | k_extra "m_turn"
    | exact (le4 (by assumption) (by assumption) (by assumption) (by assumption) (by assumption)).elim)
end Mine
theorem PySem.Challenge.cw_xm0978_01_holds : PySem.Challenge.rw_xm0978_01.Holds :=
  Mine.law_t
