import PyProof.Rows.All
import Wide.All
import OpenK.AllK
import Wide.FinOn
import PySem.Challenge.RW_xm0657_01
open PySem PySem.W PyProof.Rows
set_option Elab.async false
set_option maxRecDepth 100000
set_option maxHeartbeats 8000000
namespace Mine.Top
set_option linter.unusedVariables false
noncomputable abbrev prog : Program := (OpenRow.toRowW (OpenLaw.row PySem.Challenge.rw_xm0657_01)).prog
def nth (l : List Stmt) (i : Nat) : Stmt := match l.drop i with
  | s :: _ => s
  | [] => default
noncomputable def st (i : Nat) : Stmt := nth (behindTheImports prog) i
noncomputable def inn (i j : Nat) : Stmt := match st i with
  | .ClassDef _ _ _ b .. => nth b j
  | _ => default
def pa (s : Stmt) : Arguments := match s with
  | .FunctionDef _ a .. => a
  | _ => default
def bo (s : Stmt) : FuncBody := match s with
  | .FunctionDef _ _ b .. => .stmts b
  | _ => default
def sc (s : Stmt) : Scope := match s with
  | .FunctionDef _ _ _ _ _ _ c .. => c
  | _ => default
noncomputable def gr (a n : Nat) : List Stmt := ((behindTheImports prog).drop a).take n
def gens0 : Array GenState := Array.mk []
def drawn0 : Drawn := ⟨0, 0, 0, 0⟩
noncomputable def life : Life := Life.mk [] [] [] 0 [] [] Bool.false #[] [] 0 Bool.false Bool.false Bool.false 0 [2000, 10, 10] Bool.false 0 Bool.true [] [] 0 Bool.false
noncomputable def env : Env := Env.mk (Module.scope (Program.main prog)) mainNs mainNs [] Str.empty none (Value.ref 13) (some 14) 0
noncomputable def o43 (P : Params) : Obj := Obj.mk (Value.type "tuple") none (Data.seq #[] 0) #[]
noncomputable def o44 (P : Params) : Obj := Obj.mk Value.none none (Data.fields #[]) #[]
noncomputable def o45 (P : Params) : Obj := Obj.mk (Value.type "code") none (Data.fields #[Value.str (Str.ofString "<module>") 182, Value.str (Str.ofString "<module>") 183, Value.str (Str.ofString "/claim/cut.py") 184, Value.int 1 0, Value.int 0 0, Value.int 0 0, Value.int 0 0, Value.int 0 0, Value.ref 11, Value.bool Bool.false, Value.int 181 0, Value.ref 12, Value.none, Value.none, Value.none, Value.none, Value.int 185 0, Value.int 1 0, Value.str (Str.ofString "/claim/cut.py") 186]) #[]
noncomputable def o46 (P : Params) : Obj := Obj.mk (Value.type "frame") none Data.plain #[some (Value.ref 13), some (Value.ref 3), some (Value.ref 3), none, some (Value.str (Str.ofString "__main__") 164), none, some (Value.ref 0)]
noncomputable def o49 (P : Params) : Obj := Obj.mk (Value.type "dict") none (Data.dict #[DictEntry.mk (PyData.keyHash P (Str.ofString "__name__")) (Value.str (Str.ofString "__name__") 165) (Value.str (Str.ofString "markupmill.xpath_nodes") 194), DictEntry.mk (PyData.keyHash P (Str.ofString "__doc__")) (Value.str (Str.ofString "__doc__") 166) Value.none, DictEntry.mk (PyData.keyHash P (Str.ofString "__package__")) (Value.str (Str.ofString "__package__") 167) Value.none, DictEntry.mk (PyData.keyHash P (Str.ofString "__loader__")) (Value.str (Str.ofString "__loader__") 168) (Value.builtin "__main__.__loader__#opaque"), DictEntry.mk (PyData.keyHash P (Str.ofString "__spec__")) (Value.str (Str.ofString "__spec__") 169) Value.none, DictEntry.mk (PyData.keyHash P (Str.ofString "__annotations__")) (Value.str (Str.ofString "__annotations__") 170) (Value.ref 6), DictEntry.mk (PyData.keyHash P (Str.ofString "__builtins__")) (Value.str (Str.ofString "__builtins__") 171) (Value.ref 4), DictEntry.mk (PyData.keyHash P (Str.ofString "__file__")) (Value.str (Str.ofString "__file__") 173) (Value.str (Str.ofString "/claim/cut.py") 172), DictEntry.mk (PyData.keyHash P (Str.ofString "__cached__")) (Value.str (Str.ofString "__cached__") 174) Value.none, DictEntry.mk (PyData.keyHash P (Str.ofString "_wall")) (Value.str (Str.ofString "_wall") 193) (Value.ref 21), DictEntry.mk (PyData.keyHash P (Str.ofString "Literal")) (Value.str (Str.ofString "Literal") 231) (Value.ref 45)] 11) #[]
noncomputable def o50 (P : Params) : Obj := Obj.mk Value.none none (Data.fields #[Value.int 1 0, Value.int 0 0, Value.ref 20, Value.int 5 0, Value.int 0 0, Value.ref 27]) #[]
noncomputable def o51 (P : Params) : Obj := Obj.mk (Value.type "tuple") none (Data.seq #[] 0) #[]
noncomputable def o52 (P : Params) : Obj := Obj.mk Value.none none (Data.fields #[]) #[]
noncomputable def o53 (P : Params) : Obj := Obj.mk (Value.type "tuple") none (Data.seq #[Value.str (Str.ofString "k") 190] 0) #[]
noncomputable def o54 (P : Params) : Obj := Obj.mk (Value.type "tuple") none (Data.seq #[] 0) #[]
noncomputable def o55 (P : Params) : Obj := Obj.mk Value.none none (Data.func (FuncData.mk (Str.ofString "_wall") (Str.ofString "_wall") (pa (st 0)) (bo (st 0)) (sc (st 0)) 0 [] Value.none Value.none Value.none Value.none none Value.none Value.none 0)) #[]
noncomputable def o56 (P : Params) : Obj := Obj.mk (Value.type "code") none (Data.fields #[Value.str (Str.ofString "_wall") 187, Value.str (Str.ofString "_wall") 188, Value.str (Str.ofString "/claim/cut.py") 189, Value.int 1 0, Value.int 1 0, Value.int 0 0, Value.int 0 0, Value.int 3 0, Value.ref 15, Value.bool Bool.true, Value.int 181 0, Value.ref 16, Value.none, Value.ref 17, Value.ref 18, Value.ref 19, Value.int 191 0, Value.int 1 0, Value.str (Str.ofString "/claim/cut.py") 192]) #[]
noncomputable def o57 (P : Params) : Obj := Obj.mk (Value.type "function") none (Data.func (FuncData.mk (Str.ofString "_wall") (Str.ofString "_wall") (pa (st 0)) (bo (st 0)) (sc (st 0)) 3 [] Value.none Value.none Value.none (Value.str (Str.ofString "__main__") 164) none (Value.ref 20) Value.none 0)) #[]
noncomputable def o58 (P : Params) : Obj := Obj.mk (Value.type "tuple") none (Data.seq #[] 0) #[]
noncomputable def o59 (P : Params) : Obj := Obj.mk (Value.type "builtin_function_or_method") none (Data.fields #[Value.builtin "type.__prepare__", Value.type "type"]) #[]
noncomputable def o60 (P : Params) : Obj := Obj.mk (Value.type "dict") none (Data.dict #[DictEntry.mk (PyData.keyHash P (Str.ofString "__module__")) (Value.str (Str.ofString "__module__") 203) (Value.str (Str.ofString "markupmill.xpath_nodes") 194), DictEntry.mk (PyData.keyHash P (Str.ofString "__qualname__")) (Value.str (Str.ofString "__qualname__") 205) (Value.str (Str.ofString "Literal") 204), DictEntry.mk (PyData.keyHash P (Str.ofString "__firstlineno__")) (Value.str (Str.ofString "__firstlineno__") 207) (Value.int 5 206), DictEntry.mk (PyData.keyHash P (Str.ofString "__init__")) (Value.str (Str.ofString "__init__") 215) (Value.ref 35), DictEntry.mk (PyData.keyHash P (Str.ofString "row")) (Value.str (Str.ofString "row") 222) (Value.ref 42), DictEntry.mk (PyData.keyHash P (Str.ofString "__static_attributes__")) (Value.str (Str.ofString "__static_attributes__") 224) (Value.ref 43)] 6) #[]
noncomputable def o61 (P : Params) : Obj := Obj.mk (Value.type "tuple") none (Data.seq #[] 0) #[]
noncomputable def o62 (P : Params) : Obj := Obj.mk Value.none none (Data.fields #[Value.int 7 0, Value.int 4 0, Value.ref 34, Value.int 10 0, Value.int 4 0, Value.ref 41]) #[]
noncomputable def o63 (P : Params) : Obj := Obj.mk (Value.type "code") none (Data.fields #[Value.str (Str.ofString "Literal") 198, Value.str (Str.ofString "Literal") 199, Value.str (Str.ofString "/claim/cut.py") 200, Value.int 5 0, Value.int 0 0, Value.int 0 0, Value.int 0 0, Value.int 0 0, Value.ref 25, Value.bool Bool.false, Value.int 181 0, Value.ref 26, Value.none, Value.none, Value.none, Value.none, Value.int 201 0, Value.int 5 0, Value.str (Str.ofString "/claim/cut.py") 202]) #[]
noncomputable def o64 (P : Params) : Obj := Obj.mk (Value.type "frame") none Data.plain #[some (Value.ref 27), some (Value.ref 3), some (Value.ref 24), none, some (Value.str (Str.ofString "markupmill.xpath_nodes") 194), none, some (Value.ref 0)]
noncomputable def o65 (P : Params) : Obj := Obj.mk (Value.type "tuple") none (Data.seq #[] 0) #[]
noncomputable def o66 (P : Params) : Obj := Obj.mk Value.none none (Data.fields #[]) #[]
noncomputable def o67 (P : Params) : Obj := Obj.mk (Value.type "tuple") none (Data.seq #[Value.str (Str.ofString "self") 211, Value.str (Str.ofString "value") 212] 0) #[]
noncomputable def o68 (P : Params) : Obj := Obj.mk (Value.type "tuple") none (Data.seq #[] 0) #[]
noncomputable def o69 (P : Params) : Obj := Obj.mk Value.none none (Data.func (FuncData.mk (Str.ofString "__init__") (Str.ofString "Literal.__init__") (pa (inn 2 0)) (bo (inn 2 0)) (sc (inn 2 0)) 0 [] Value.none Value.none Value.none Value.none none Value.none Value.none 0)) #[]
noncomputable def o70 (P : Params) : Obj := Obj.mk (Value.type "code") none (Data.fields #[Value.str (Str.ofString "__init__") 208, Value.str (Str.ofString "Literal.__init__") 209, Value.str (Str.ofString "/claim/cut.py") 210, Value.int 7 0, Value.int 2 0, Value.int 0 0, Value.int 0 0, Value.int 3 0, Value.ref 29, Value.bool Bool.true, Value.int 181 0, Value.ref 30, Value.none, Value.ref 31, Value.ref 32, Value.ref 33, Value.int 213 0, Value.int 7 0, Value.str (Str.ofString "/claim/cut.py") 214]) #[]
noncomputable def o71 (P : Params) : Obj := Obj.mk (Value.type "function") none (Data.func (FuncData.mk (Str.ofString "__init__") (Str.ofString "Literal.__init__") (pa (inn 2 0)) (bo (inn 2 0)) (sc (inn 2 0)) 3 [] Value.none Value.none Value.none (Value.str (Str.ofString "markupmill.xpath_nodes") 194) none (Value.ref 34) Value.none 0)) #[]
noncomputable def o72 (P : Params) : Obj := Obj.mk (Value.type "tuple") none (Data.seq #[] 0) #[]
noncomputable def o73 (P : Params) : Obj := Obj.mk Value.none none (Data.fields #[]) #[]
noncomputable def o74 (P : Params) : Obj := Obj.mk (Value.type "tuple") none (Data.seq #[Value.str (Str.ofString "self") 219] 0) #[]
noncomputable def o75 (P : Params) : Obj := Obj.mk (Value.type "tuple") none (Data.seq #[] 0) #[]
noncomputable def o76 (P : Params) : Obj := Obj.mk Value.none none (Data.func (FuncData.mk (Str.ofString "row") (Str.ofString "Literal.row") (pa (inn 2 1)) (bo (inn 2 1)) (sc (inn 2 1)) 0 [] Value.none Value.none Value.none Value.none none Value.none Value.none 0)) #[]
noncomputable def o77 (P : Params) : Obj := Obj.mk (Value.type "code") none (Data.fields #[Value.str (Str.ofString "row") 216, Value.str (Str.ofString "Literal.row") 217, Value.str (Str.ofString "/claim/cut.py") 218, Value.int 10 0, Value.int 1 0, Value.int 0 0, Value.int 0 0, Value.int 3 0, Value.ref 36, Value.bool Bool.true, Value.int 181 0, Value.ref 37, Value.none, Value.ref 38, Value.ref 39, Value.ref 40, Value.int 220 0, Value.int 10 0, Value.str (Str.ofString "/claim/cut.py") 221]) #[]
noncomputable def o78 (P : Params) : Obj := Obj.mk (Value.type "function") none (Data.func (FuncData.mk (Str.ofString "row") (Str.ofString "Literal.row") (pa (inn 2 1)) (bo (inn 2 1)) (sc (inn 2 1)) 3 [] Value.none Value.none Value.none (Value.str (Str.ofString "markupmill.xpath_nodes") 194) none (Value.ref 41) Value.none 0)) #[]
noncomputable def o79 (P : Params) : Obj := Obj.mk (Value.type "tuple") none (Data.seq #[Value.str (Str.ofString "value") 223] 0) #[]
noncomputable def o80 (P : Params) : Obj := Obj.mk (Value.type "dict") none (Data.dict #[DictEntry.mk (PyData.keyHash P (Str.ofString "__module__")) (Value.str (Str.ofString "__module__") 203) (Value.str (Str.ofString "markupmill.xpath_nodes") 194), DictEntry.mk (PyData.keyHash P (Str.ofString "__firstlineno__")) (Value.str (Str.ofString "__firstlineno__") 207) (Value.int 5 206), DictEntry.mk (PyData.keyHash P (Str.ofString "__init__")) (Value.str (Str.ofString "__init__") 215) (Value.ref 35), DictEntry.mk (PyData.keyHash P (Str.ofString "row")) (Value.str (Str.ofString "row") 222) (Value.ref 42), DictEntry.mk (PyData.keyHash P (Str.ofString "__static_attributes__")) (Value.str (Str.ofString "__static_attributes__") 224) (Value.ref 43), DictEntry.mk (PyData.keyHash P (Str.ofString "__dict__")) (Value.str (Str.ofString "__dict__") 226) (Value.ref 46), DictEntry.mk (PyData.keyHash P (Str.ofString "__weakref__")) (Value.str (Str.ofString "__weakref__") 228) (Value.ref 47), DictEntry.mk (PyData.keyHash P (Str.ofString "__doc__")) (Value.str (Str.ofString "__doc__") 229) Value.none] 4) #[]
noncomputable def o81 (P : Params) : Obj := Obj.mk (Value.type "type") none (Data.cls (ClassData.mk (Str.ofString "Literal") [Value.type "object"] [Value.ref 45, Value.type "object"] 44 (Str.ofString "Literal") Bool.true [] [] Bool.false none Bool.false)) #[none, none, some (Value.str (Str.ofString "Literal") 196), some (Value.str (Str.ofString "Literal") 204), some (Value.builtin "object.__new__"), some (Value.bool Bool.true)]
noncomputable def o82 (P : Params) : Obj := Obj.mk (Value.type "getset_descriptor") none (Data.fields #[Value.str (Str.ofString "__dict__") 225, Value.ref 45, Value.builtin "function.__dict__", Value.builtin "function.__dict__#set"]) #[]
noncomputable def o83 (P : Params) : Obj := Obj.mk (Value.type "getset_descriptor") none (Data.fields #[Value.str (Str.ofString "__weakref__") 227, Value.ref 45, Value.builtin "ExceptionGroup.__weakref__", Value.none]) #[]
noncomputable def o84 (P : Params) : Obj := Obj.mk (Value.type "super") none (Data.fields #[Value.ref 45, Value.ref 45, Value.ref 45]) #[]
noncomputable def o85 (P : Params) : Obj := Obj.mk (Value.type "builtin_function_or_method") none (Data.fields #[Value.builtin "object.__init_subclass__", Value.ref 45]) #[]
noncomputable def o86 (P : Params) : Obj := Obj.mk (Value.type "dict") none (Data.dict #[DictEntry.mk (PyData.keyHash P (Str.ofString "__name__")) (Value.str (Str.ofString "__name__") 165) (Value.str (Str.ofString "markupmill.xpath_nodes") 194), DictEntry.mk (PyData.keyHash P (Str.ofString "__doc__")) (Value.str (Str.ofString "__doc__") 166) Value.none, DictEntry.mk (PyData.keyHash P (Str.ofString "__package__")) (Value.str (Str.ofString "__package__") 167) Value.none, DictEntry.mk (PyData.keyHash P (Str.ofString "__loader__")) (Value.str (Str.ofString "__loader__") 168) (Value.builtin "__main__.__loader__#opaque"), DictEntry.mk (PyData.keyHash P (Str.ofString "__spec__")) (Value.str (Str.ofString "__spec__") 169) Value.none, DictEntry.mk (PyData.keyHash P (Str.ofString "__annotations__")) (Value.str (Str.ofString "__annotations__") 170) (Value.ref 6), DictEntry.mk (PyData.keyHash P (Str.ofString "__builtins__")) (Value.str (Str.ofString "__builtins__") 171) (Value.ref 4), DictEntry.mk (PyData.keyHash P (Str.ofString "__file__")) (Value.str (Str.ofString "__file__") 173) (Value.str (Str.ofString "/claim/cut.py") 172), DictEntry.mk (PyData.keyHash P (Str.ofString "__cached__")) (Value.str (Str.ofString "__cached__") 174) Value.none, DictEntry.mk (PyData.keyHash P (Str.ofString "_wall")) (Value.str (Str.ofString "_wall") 193) (Value.ref 21), DictEntry.mk (PyData.keyHash P (Str.ofString "Literal")) (Value.str (Str.ofString "Literal") 231) (Value.ref 45), DictEntry.mk (PyData.keyHash P (Str.ofString "Call")) (Value.str (Str.ofString "Call") 269) (Value.ref 73)] 12) #[]
noncomputable def o87 (P : Params) : Obj := Obj.mk Value.none none (Data.fields #[Value.int 1 0, Value.int 0 0, Value.ref 20, Value.int 5 0, Value.int 0 0, Value.ref 27, Value.int 12 0, Value.int 0 0, Value.ref 55]) #[]
noncomputable def o88 (P : Params) : Obj := Obj.mk (Value.type "tuple") none (Data.seq #[] 0) #[]
noncomputable def o89 (P : Params) : Obj := Obj.mk (Value.type "builtin_function_or_method") none (Data.fields #[Value.builtin "type.__prepare__", Value.type "type"]) #[]
noncomputable def o90 (P : Params) : Obj := Obj.mk (Value.type "dict") none (Data.dict #[DictEntry.mk (PyData.keyHash P (Str.ofString "__module__")) (Value.str (Str.ofString "__module__") 239) (Value.str (Str.ofString "markupmill.xpath_nodes") 194), DictEntry.mk (PyData.keyHash P (Str.ofString "__qualname__")) (Value.str (Str.ofString "__qualname__") 241) (Value.str (Str.ofString "Call") 240), DictEntry.mk (PyData.keyHash P (Str.ofString "__firstlineno__")) (Value.str (Str.ofString "__firstlineno__") 243) (Value.int 12 242), DictEntry.mk (PyData.keyHash P (Str.ofString "__init__")) (Value.str (Str.ofString "__init__") 252) (Value.ref 63), DictEntry.mk (PyData.keyHash P (Str.ofString "row")) (Value.str (Str.ofString "row") 259) (Value.ref 70), DictEntry.mk (PyData.keyHash P (Str.ofString "__static_attributes__")) (Value.str (Str.ofString "__static_attributes__") 262) (Value.ref 71)] 6) #[]
noncomputable def o91 (P : Params) : Obj := Obj.mk (Value.type "tuple") none (Data.seq #[] 0) #[]
noncomputable def o92 (P : Params) : Obj := Obj.mk Value.none none (Data.fields #[Value.int 14 0, Value.int 4 0, Value.ref 62, Value.int 18 0, Value.int 4 0, Value.ref 69]) #[]
noncomputable def o93 (P : Params) : Obj := Obj.mk (Value.type "code") none (Data.fields #[Value.str (Str.ofString "Call") 234, Value.str (Str.ofString "Call") 235, Value.str (Str.ofString "/claim/cut.py") 236, Value.int 12 0, Value.int 0 0, Value.int 0 0, Value.int 0 0, Value.int 0 0, Value.ref 53, Value.bool Bool.false, Value.int 181 0, Value.ref 54, Value.none, Value.none, Value.none, Value.none, Value.int 237 0, Value.int 12 0, Value.str (Str.ofString "/claim/cut.py") 238]) #[]
noncomputable def o94 (P : Params) : Obj := Obj.mk (Value.type "frame") none Data.plain #[some (Value.ref 55), some (Value.ref 3), some (Value.ref 52), none, some (Value.str (Str.ofString "markupmill.xpath_nodes") 194), none, some (Value.ref 0)]
noncomputable def o95 (P : Params) : Obj := Obj.mk (Value.type "tuple") none (Data.seq #[] 0) #[]
noncomputable def o96 (P : Params) : Obj := Obj.mk Value.none none (Data.fields #[]) #[]
noncomputable def o97 (P : Params) : Obj := Obj.mk (Value.type "tuple") none (Data.seq #[Value.str (Str.ofString "self") 247, Value.str (Str.ofString "name") 248, Value.str (Str.ofString "arguments") 249] 0) #[]
noncomputable def o98 (P : Params) : Obj := Obj.mk (Value.type "tuple") none (Data.seq #[] 0) #[]
noncomputable def o99 (P : Params) : Obj := Obj.mk Value.none none (Data.func (FuncData.mk (Str.ofString "__init__") (Str.ofString "Call.__init__") (pa (inn 3 0)) (bo (inn 3 0)) (sc (inn 3 0)) 0 [] Value.none Value.none Value.none Value.none none Value.none Value.none 0)) #[]
noncomputable def o100 (P : Params) : Obj := Obj.mk (Value.type "code") none (Data.fields #[Value.str (Str.ofString "__init__") 244, Value.str (Str.ofString "Call.__init__") 245, Value.str (Str.ofString "/claim/cut.py") 246, Value.int 14 0, Value.int 3 0, Value.int 0 0, Value.int 0 0, Value.int 3 0, Value.ref 57, Value.bool Bool.true, Value.int 181 0, Value.ref 58, Value.none, Value.ref 59, Value.ref 60, Value.ref 61, Value.int 250 0, Value.int 14 0, Value.str (Str.ofString "/claim/cut.py") 251]) #[]
noncomputable def o101 (P : Params) : Obj := Obj.mk (Value.type "function") none (Data.func (FuncData.mk (Str.ofString "__init__") (Str.ofString "Call.__init__") (pa (inn 3 0)) (bo (inn 3 0)) (sc (inn 3 0)) 3 [] Value.none Value.none Value.none (Value.str (Str.ofString "markupmill.xpath_nodes") 194) none (Value.ref 62) Value.none 0)) #[]
noncomputable def o102 (P : Params) : Obj := Obj.mk (Value.type "tuple") none (Data.seq #[] 0) #[]
noncomputable def o103 (P : Params) : Obj := Obj.mk Value.none none (Data.fields #[]) #[]
noncomputable def o104 (P : Params) : Obj := Obj.mk (Value.type "tuple") none (Data.seq #[Value.str (Str.ofString "self") 256] 0) #[]
noncomputable def o105 (P : Params) : Obj := Obj.mk (Value.type "tuple") none (Data.seq #[] 0) #[]
noncomputable def o106 (P : Params) : Obj := Obj.mk Value.none none (Data.func (FuncData.mk (Str.ofString "row") (Str.ofString "Call.row") (pa (inn 3 1)) (bo (inn 3 1)) (sc (inn 2 1)) 0 [] Value.none Value.none Value.none Value.none none Value.none Value.none 0)) #[]
noncomputable def o107 (P : Params) : Obj := Obj.mk (Value.type "code") none (Data.fields #[Value.str (Str.ofString "row") 253, Value.str (Str.ofString "Call.row") 254, Value.str (Str.ofString "/claim/cut.py") 255, Value.int 18 0, Value.int 1 0, Value.int 0 0, Value.int 0 0, Value.int 3 0, Value.ref 64, Value.bool Bool.true, Value.int 181 0, Value.ref 65, Value.none, Value.ref 66, Value.ref 67, Value.ref 68, Value.int 257 0, Value.int 18 0, Value.str (Str.ofString "/claim/cut.py") 258]) #[]
noncomputable def o108 (P : Params) : Obj := Obj.mk (Value.type "function") none (Data.func (FuncData.mk (Str.ofString "row") (Str.ofString "Call.row") (pa (inn 3 1)) (bo (inn 3 1)) (sc (inn 2 1)) 3 [] Value.none Value.none Value.none (Value.str (Str.ofString "markupmill.xpath_nodes") 194) none (Value.ref 69) Value.none 0)) #[]
noncomputable def o109 (P : Params) : Obj := Obj.mk (Value.type "tuple") none (Data.seq #[Value.str (Str.ofString "arguments") 260, Value.str (Str.ofString "name") 261] 0) #[]
noncomputable def o110 (P : Params) : Obj := Obj.mk (Value.type "dict") none (Data.dict #[DictEntry.mk (PyData.keyHash P (Str.ofString "__module__")) (Value.str (Str.ofString "__module__") 239) (Value.str (Str.ofString "markupmill.xpath_nodes") 194), DictEntry.mk (PyData.keyHash P (Str.ofString "__firstlineno__")) (Value.str (Str.ofString "__firstlineno__") 243) (Value.int 12 242), DictEntry.mk (PyData.keyHash P (Str.ofString "__init__")) (Value.str (Str.ofString "__init__") 252) (Value.ref 63), DictEntry.mk (PyData.keyHash P (Str.ofString "row")) (Value.str (Str.ofString "row") 259) (Value.ref 70), DictEntry.mk (PyData.keyHash P (Str.ofString "__static_attributes__")) (Value.str (Str.ofString "__static_attributes__") 262) (Value.ref 71), DictEntry.mk (PyData.keyHash P (Str.ofString "__dict__")) (Value.str (Str.ofString "__dict__") 264) (Value.ref 74), DictEntry.mk (PyData.keyHash P (Str.ofString "__weakref__")) (Value.str (Str.ofString "__weakref__") 266) (Value.ref 75), DictEntry.mk (PyData.keyHash P (Str.ofString "__doc__")) (Value.str (Str.ofString "__doc__") 267) Value.none] 4) #[]
noncomputable def o111 (P : Params) : Obj := Obj.mk (Value.type "type") none (Data.cls (ClassData.mk (Str.ofString "Call") [Value.type "object"] [Value.ref 73, Value.type "object"] 72 (Str.ofString "Call") Bool.true [] [] Bool.false none Bool.false)) #[none, none, some (Value.str (Str.ofString "Call") 232), some (Value.str (Str.ofString "Call") 240), some (Value.builtin "object.__new__"), some (Value.bool Bool.true)]
noncomputable def o112 (P : Params) : Obj := Obj.mk (Value.type "getset_descriptor") none (Data.fields #[Value.str (Str.ofString "__dict__") 263, Value.ref 73, Value.builtin "function.__dict__", Value.builtin "function.__dict__#set"]) #[]
noncomputable def o113 (P : Params) : Obj := Obj.mk (Value.type "getset_descriptor") none (Data.fields #[Value.str (Str.ofString "__weakref__") 265, Value.ref 73, Value.builtin "ExceptionGroup.__weakref__", Value.none]) #[]
noncomputable def o114 (P : Params) : Obj := Obj.mk (Value.type "super") none (Data.fields #[Value.ref 73, Value.ref 73, Value.ref 73]) #[]
noncomputable def o115 (P : Params) : Obj := Obj.mk (Value.type "builtin_function_or_method") none (Data.fields #[Value.builtin "object.__init_subclass__", Value.ref 73]) #[]
noncomputable def o116 (P : Params) : Obj := Obj.mk (Value.type "dict") none (Data.dict #[DictEntry.mk (PyData.keyHash P (Str.ofString "__name__")) (Value.str (Str.ofString "__name__") 165) (Value.str (Str.ofString "markupmill.xpath_nodes") 194), DictEntry.mk (PyData.keyHash P (Str.ofString "__doc__")) (Value.str (Str.ofString "__doc__") 166) Value.none, DictEntry.mk (PyData.keyHash P (Str.ofString "__package__")) (Value.str (Str.ofString "__package__") 167) Value.none, DictEntry.mk (PyData.keyHash P (Str.ofString "__loader__")) (Value.str (Str.ofString "__loader__") 168) (Value.builtin "__main__.__loader__#opaque"), DictEntry.mk (PyData.keyHash P (Str.ofString "__spec__")) (Value.str (Str.ofString "__spec__") 169) Value.none, DictEntry.mk (PyData.keyHash P (Str.ofString "__annotations__")) (Value.str (Str.ofString "__annotations__") 170) (Value.ref 6), DictEntry.mk (PyData.keyHash P (Str.ofString "__builtins__")) (Value.str (Str.ofString "__builtins__") 171) (Value.ref 4), DictEntry.mk (PyData.keyHash P (Str.ofString "__file__")) (Value.str (Str.ofString "__file__") 173) (Value.str (Str.ofString "/claim/cut.py") 172), DictEntry.mk (PyData.keyHash P (Str.ofString "__cached__")) (Value.str (Str.ofString "__cached__") 174) Value.none, DictEntry.mk (PyData.keyHash P (Str.ofString "_wall")) (Value.str (Str.ofString "_wall") 193) (Value.ref 21), DictEntry.mk (PyData.keyHash P (Str.ofString "Literal")) (Value.str (Str.ofString "Literal") 231) (Value.ref 45), DictEntry.mk (PyData.keyHash P (Str.ofString "Call")) (Value.str (Str.ofString "Call") 269) (Value.ref 73), DictEntry.mk (PyData.keyHash P (Str.ofString "Binary")) (Value.str (Str.ofString "Binary") 309) (Value.ref 101)] 13) #[]
noncomputable def o117 (P : Params) : Obj := Obj.mk Value.none none (Data.fields #[Value.int 1 0, Value.int 0 0, Value.ref 20, Value.int 5 0, Value.int 0 0, Value.ref 27, Value.int 12 0, Value.int 0 0, Value.ref 55, Value.int 20 0, Value.int 0 0, Value.ref 83]) #[]
noncomputable def o118 (P : Params) : Obj := Obj.mk (Value.type "tuple") none (Data.seq #[] 0) #[]
noncomputable def o119 (P : Params) : Obj := Obj.mk (Value.type "builtin_function_or_method") none (Data.fields #[Value.builtin "type.__prepare__", Value.type "type"]) #[]
noncomputable def o120 (P : Params) : Obj := Obj.mk (Value.type "dict") none (Data.dict #[DictEntry.mk (PyData.keyHash P (Str.ofString "__module__")) (Value.str (Str.ofString "__module__") 277) (Value.str (Str.ofString "markupmill.xpath_nodes") 194), DictEntry.mk (PyData.keyHash P (Str.ofString "__qualname__")) (Value.str (Str.ofString "__qualname__") 279) (Value.str (Str.ofString "Binary") 278), DictEntry.mk (PyData.keyHash P (Str.ofString "__firstlineno__")) (Value.str (Str.ofString "__firstlineno__") 281) (Value.int 20 280), DictEntry.mk (PyData.keyHash P (Str.ofString "__init__")) (Value.str (Str.ofString "__init__") 291) (Value.ref 91), DictEntry.mk (PyData.keyHash P (Str.ofString "row")) (Value.str (Str.ofString "row") 298) (Value.ref 98), DictEntry.mk (PyData.keyHash P (Str.ofString "__static_attributes__")) (Value.str (Str.ofString "__static_attributes__") 302) (Value.ref 99)] 6) #[]
noncomputable def o121 (P : Params) : Obj := Obj.mk (Value.type "tuple") none (Data.seq #[] 0) #[]
noncomputable def o122 (P : Params) : Obj := Obj.mk Value.none none (Data.fields #[Value.int 22 0, Value.int 4 0, Value.ref 90, Value.int 27 0, Value.int 4 0, Value.ref 97]) #[]
noncomputable def o123 (P : Params) : Obj := Obj.mk (Value.type "code") none (Data.fields #[Value.str (Str.ofString "Binary") 272, Value.str (Str.ofString "Binary") 273, Value.str (Str.ofString "/claim/cut.py") 274, Value.int 20 0, Value.int 0 0, Value.int 0 0, Value.int 0 0, Value.int 0 0, Value.ref 81, Value.bool Bool.false, Value.int 181 0, Value.ref 82, Value.none, Value.none, Value.none, Value.none, Value.int 275 0, Value.int 20 0, Value.str (Str.ofString "/claim/cut.py") 276]) #[]
noncomputable def o124 (P : Params) : Obj := Obj.mk (Value.type "frame") none Data.plain #[some (Value.ref 83), some (Value.ref 3), some (Value.ref 80), none, some (Value.str (Str.ofString "markupmill.xpath_nodes") 194), none, some (Value.ref 0)]
noncomputable def o125 (P : Params) : Obj := Obj.mk (Value.type "tuple") none (Data.seq #[] 0) #[]
noncomputable def o126 (P : Params) : Obj := Obj.mk Value.none none (Data.fields #[]) #[]
noncomputable def o127 (P : Params) : Obj := Obj.mk (Value.type "tuple") none (Data.seq #[Value.str (Str.ofString "self") 285, Value.str (Str.ofString "op") 286, Value.str (Str.ofString "left") 287, Value.str (Str.ofString "right") 288] 0) #[]
noncomputable def o128 (P : Params) : Obj := Obj.mk (Value.type "tuple") none (Data.seq #[] 0) #[]
noncomputable def o129 (P : Params) : Obj := Obj.mk Value.none none (Data.func (FuncData.mk (Str.ofString "__init__") (Str.ofString "Binary.__init__") (pa (inn 4 0)) (bo (inn 4 0)) (sc (inn 4 0)) 0 [] Value.none Value.none Value.none Value.none none Value.none Value.none 0)) #[]
noncomputable def o130 (P : Params) : Obj := Obj.mk (Value.type "code") none (Data.fields #[Value.str (Str.ofString "__init__") 282, Value.str (Str.ofString "Binary.__init__") 283, Value.str (Str.ofString "/claim/cut.py") 284, Value.int 22 0, Value.int 4 0, Value.int 0 0, Value.int 0 0, Value.int 3 0, Value.ref 85, Value.bool Bool.true, Value.int 181 0, Value.ref 86, Value.none, Value.ref 87, Value.ref 88, Value.ref 89, Value.int 289 0, Value.int 22 0, Value.str (Str.ofString "/claim/cut.py") 290]) #[]
noncomputable def o131 (P : Params) : Obj := Obj.mk (Value.type "function") none (Data.func (FuncData.mk (Str.ofString "__init__") (Str.ofString "Binary.__init__") (pa (inn 4 0)) (bo (inn 4 0)) (sc (inn 4 0)) 3 [] Value.none Value.none Value.none (Value.str (Str.ofString "markupmill.xpath_nodes") 194) none (Value.ref 90) Value.none 0)) #[]
noncomputable def o132 (P : Params) : Obj := Obj.mk (Value.type "tuple") none (Data.seq #[] 0) #[]
noncomputable def o133 (P : Params) : Obj := Obj.mk Value.none none (Data.fields #[]) #[]
noncomputable def o134 (P : Params) : Obj := Obj.mk (Value.type "tuple") none (Data.seq #[Value.str (Str.ofString "self") 295] 0) #[]
noncomputable def o135 (P : Params) : Obj := Obj.mk (Value.type "tuple") none (Data.seq #[] 0) #[]
noncomputable def o136 (P : Params) : Obj := Obj.mk Value.none none (Data.func (FuncData.mk (Str.ofString "row") (Str.ofString "Binary.row") (pa (inn 4 1)) (bo (inn 4 1)) (sc (inn 2 1)) 0 [] Value.none Value.none Value.none Value.none none Value.none Value.none 0)) #[]
noncomputable def o137 (P : Params) : Obj := Obj.mk (Value.type "code") none (Data.fields #[Value.str (Str.ofString "row") 292, Value.str (Str.ofString "Binary.row") 293, Value.str (Str.ofString "/claim/cut.py") 294, Value.int 27 0, Value.int 1 0, Value.int 0 0, Value.int 0 0, Value.int 3 0, Value.ref 92, Value.bool Bool.true, Value.int 181 0, Value.ref 93, Value.none, Value.ref 94, Value.ref 95, Value.ref 96, Value.int 296 0, Value.int 27 0, Value.str (Str.ofString "/claim/cut.py") 297]) #[]
noncomputable def o138 (P : Params) : Obj := Obj.mk (Value.type "function") none (Data.func (FuncData.mk (Str.ofString "row") (Str.ofString "Binary.row") (pa (inn 4 1)) (bo (inn 4 1)) (sc (inn 2 1)) 3 [] Value.none Value.none Value.none (Value.str (Str.ofString "markupmill.xpath_nodes") 194) none (Value.ref 97) Value.none 0)) #[]
noncomputable def o139 (P : Params) : Obj := Obj.mk (Value.type "tuple") none (Data.seq #[Value.str (Str.ofString "left") 299, Value.str (Str.ofString "op") 300, Value.str (Str.ofString "right") 301] 0) #[]
noncomputable def o140 (P : Params) : Obj := Obj.mk (Value.type "dict") none (Data.dict #[DictEntry.mk (PyData.keyHash P (Str.ofString "__module__")) (Value.str (Str.ofString "__module__") 277) (Value.str (Str.ofString "markupmill.xpath_nodes") 194), DictEntry.mk (PyData.keyHash P (Str.ofString "__firstlineno__")) (Value.str (Str.ofString "__firstlineno__") 281) (Value.int 20 280), DictEntry.mk (PyData.keyHash P (Str.ofString "__init__")) (Value.str (Str.ofString "__init__") 291) (Value.ref 91), DictEntry.mk (PyData.keyHash P (Str.ofString "row")) (Value.str (Str.ofString "row") 298) (Value.ref 98), DictEntry.mk (PyData.keyHash P (Str.ofString "__static_attributes__")) (Value.str (Str.ofString "__static_attributes__") 302) (Value.ref 99), DictEntry.mk (PyData.keyHash P (Str.ofString "__dict__")) (Value.str (Str.ofString "__dict__") 304) (Value.ref 102), DictEntry.mk (PyData.keyHash P (Str.ofString "__weakref__")) (Value.str (Str.ofString "__weakref__") 306) (Value.ref 103), DictEntry.mk (PyData.keyHash P (Str.ofString "__doc__")) (Value.str (Str.ofString "__doc__") 307) Value.none] 4) #[]
noncomputable def o141 (P : Params) : Obj := Obj.mk (Value.type "type") none (Data.cls (ClassData.mk (Str.ofString "Binary") [Value.type "object"] [Value.ref 101, Value.type "object"] 100 (Str.ofString "Binary") Bool.true [] [] Bool.false none Bool.false)) #[none, none, some (Value.str (Str.ofString "Binary") 270), some (Value.str (Str.ofString "Binary") 278), some (Value.builtin "object.__new__"), some (Value.bool Bool.true)]
noncomputable def o142 (P : Params) : Obj := Obj.mk (Value.type "getset_descriptor") none (Data.fields #[Value.str (Str.ofString "__dict__") 303, Value.ref 101, Value.builtin "function.__dict__", Value.builtin "function.__dict__#set"]) #[]
noncomputable def o143 (P : Params) : Obj := Obj.mk (Value.type "getset_descriptor") none (Data.fields #[Value.str (Str.ofString "__weakref__") 305, Value.ref 101, Value.builtin "ExceptionGroup.__weakref__", Value.none]) #[]
noncomputable def o144 (P : Params) : Obj := Obj.mk (Value.type "super") none (Data.fields #[Value.ref 101, Value.ref 101, Value.ref 101]) #[]
noncomputable def o145 (P : Params) : Obj := Obj.mk (Value.type "builtin_function_or_method") none (Data.fields #[Value.builtin "object.__init_subclass__", Value.ref 101]) #[]
noncomputable def o146 (P : Params) : Obj := Obj.mk (Value.type "dict") none (Data.dict #[DictEntry.mk (PyData.keyHash P (Str.ofString "__name__")) (Value.str (Str.ofString "__name__") 165) (Value.str (Str.ofString "markupmill.xpath_nodes") 194), DictEntry.mk (PyData.keyHash P (Str.ofString "__doc__")) (Value.str (Str.ofString "__doc__") 166) Value.none, DictEntry.mk (PyData.keyHash P (Str.ofString "__package__")) (Value.str (Str.ofString "__package__") 167) Value.none, DictEntry.mk (PyData.keyHash P (Str.ofString "__loader__")) (Value.str (Str.ofString "__loader__") 168) (Value.builtin "__main__.__loader__#opaque"), DictEntry.mk (PyData.keyHash P (Str.ofString "__spec__")) (Value.str (Str.ofString "__spec__") 169) Value.none, DictEntry.mk (PyData.keyHash P (Str.ofString "__annotations__")) (Value.str (Str.ofString "__annotations__") 170) (Value.ref 6), DictEntry.mk (PyData.keyHash P (Str.ofString "__builtins__")) (Value.str (Str.ofString "__builtins__") 171) (Value.ref 4), DictEntry.mk (PyData.keyHash P (Str.ofString "__file__")) (Value.str (Str.ofString "__file__") 173) (Value.str (Str.ofString "/claim/cut.py") 172), DictEntry.mk (PyData.keyHash P (Str.ofString "__cached__")) (Value.str (Str.ofString "__cached__") 174) Value.none, DictEntry.mk (PyData.keyHash P (Str.ofString "_wall")) (Value.str (Str.ofString "_wall") 193) (Value.ref 21), DictEntry.mk (PyData.keyHash P (Str.ofString "Literal")) (Value.str (Str.ofString "Literal") 231) (Value.ref 45), DictEntry.mk (PyData.keyHash P (Str.ofString "Call")) (Value.str (Str.ofString "Call") 269) (Value.ref 73), DictEntry.mk (PyData.keyHash P (Str.ofString "Binary")) (Value.str (Str.ofString "Binary") 309) (Value.ref 101), DictEntry.mk (PyData.keyHash P (Str.ofString "Negated")) (Value.str (Str.ofString "Negated") 345) (Value.ref 129)] 14) #[]
noncomputable def o147 (P : Params) : Obj := Obj.mk Value.none none (Data.fields #[Value.int 1 0, Value.int 0 0, Value.ref 20, Value.int 5 0, Value.int 0 0, Value.ref 27, Value.int 12 0, Value.int 0 0, Value.ref 55, Value.int 20 0, Value.int 0 0, Value.ref 83, Value.int 29 0, Value.int 0 0, Value.ref 111]) #[]
noncomputable def o148 (P : Params) : Obj := Obj.mk (Value.type "tuple") none (Data.seq #[] 0) #[]
noncomputable def o149 (P : Params) : Obj := Obj.mk (Value.type "builtin_function_or_method") none (Data.fields #[Value.builtin "type.__prepare__", Value.type "type"]) #[]
noncomputable def o150 (P : Params) : Obj := Obj.mk (Value.type "dict") none (Data.dict #[DictEntry.mk (PyData.keyHash P (Str.ofString "__module__")) (Value.str (Str.ofString "__module__") 317) (Value.str (Str.ofString "markupmill.xpath_nodes") 194), DictEntry.mk (PyData.keyHash P (Str.ofString "__qualname__")) (Value.str (Str.ofString "__qualname__") 319) (Value.str (Str.ofString "Negated") 318), DictEntry.mk (PyData.keyHash P (Str.ofString "__firstlineno__")) (Value.str (Str.ofString "__firstlineno__") 321) (Value.int 29 320), DictEntry.mk (PyData.keyHash P (Str.ofString "__init__")) (Value.str (Str.ofString "__init__") 329) (Value.ref 119), DictEntry.mk (PyData.keyHash P (Str.ofString "row")) (Value.str (Str.ofString "row") 336) (Value.ref 126), DictEntry.mk (PyData.keyHash P (Str.ofString "__static_attributes__")) (Value.str (Str.ofString "__static_attributes__") 338) (Value.ref 127)] 6) #[]
noncomputable def o151 (P : Params) : Obj := Obj.mk (Value.type "tuple") none (Data.seq #[] 0) #[]
noncomputable def o152 (P : Params) : Obj := Obj.mk Value.none none (Data.fields #[Value.int 31 0, Value.int 4 0, Value.ref 118, Value.int 34 0, Value.int 4 0, Value.ref 125]) #[]
noncomputable def o153 (P : Params) : Obj := Obj.mk (Value.type "code") none (Data.fields #[Value.str (Str.ofString "Negated") 312, Value.str (Str.ofString "Negated") 313, Value.str (Str.ofString "/claim/cut.py") 314, Value.int 29 0, Value.int 0 0, Value.int 0 0, Value.int 0 0, Value.int 0 0, Value.ref 109, Value.bool Bool.false, Value.int 181 0, Value.ref 110, Value.none, Value.none, Value.none, Value.none, Value.int 315 0, Value.int 29 0, Value.str (Str.ofString "/claim/cut.py") 316]) #[]
noncomputable def o154 (P : Params) : Obj := Obj.mk (Value.type "frame") none Data.plain #[some (Value.ref 111), some (Value.ref 3), some (Value.ref 108), none, some (Value.str (Str.ofString "markupmill.xpath_nodes") 194), none, some (Value.ref 0)]
noncomputable def o155 (P : Params) : Obj := Obj.mk (Value.type "tuple") none (Data.seq #[] 0) #[]
noncomputable def o156 (P : Params) : Obj := Obj.mk Value.none none (Data.fields #[]) #[]
noncomputable def o157 (P : Params) : Obj := Obj.mk (Value.type "tuple") none (Data.seq #[Value.str (Str.ofString "self") 325, Value.str (Str.ofString "value") 326] 0) #[]
noncomputable def o158 (P : Params) : Obj := Obj.mk (Value.type "tuple") none (Data.seq #[] 0) #[]
noncomputable def o159 (P : Params) : Obj := Obj.mk Value.none none (Data.func (FuncData.mk (Str.ofString "__init__") (Str.ofString "Negated.__init__") (pa (inn 5 0)) (bo (inn 5 0)) (sc (inn 2 0)) 0 [] Value.none Value.none Value.none Value.none none Value.none Value.none 0)) #[]
noncomputable def o160 (P : Params) : Obj := Obj.mk (Value.type "code") none (Data.fields #[Value.str (Str.ofString "__init__") 322, Value.str (Str.ofString "Negated.__init__") 323, Value.str (Str.ofString "/claim/cut.py") 324, Value.int 31 0, Value.int 2 0, Value.int 0 0, Value.int 0 0, Value.int 3 0, Value.ref 113, Value.bool Bool.true, Value.int 181 0, Value.ref 114, Value.none, Value.ref 115, Value.ref 116, Value.ref 117, Value.int 327 0, Value.int 31 0, Value.str (Str.ofString "/claim/cut.py") 328]) #[]
noncomputable def o161 (P : Params) : Obj := Obj.mk (Value.type "function") none (Data.func (FuncData.mk (Str.ofString "__init__") (Str.ofString "Negated.__init__") (pa (inn 5 0)) (bo (inn 5 0)) (sc (inn 2 0)) 3 [] Value.none Value.none Value.none (Value.str (Str.ofString "markupmill.xpath_nodes") 194) none (Value.ref 118) Value.none 0)) #[]
noncomputable def o162 (P : Params) : Obj := Obj.mk (Value.type "tuple") none (Data.seq #[] 0) #[]
noncomputable def o163 (P : Params) : Obj := Obj.mk Value.none none (Data.fields #[]) #[]
noncomputable def o164 (P : Params) : Obj := Obj.mk (Value.type "tuple") none (Data.seq #[Value.str (Str.ofString "self") 333] 0) #[]
noncomputable def o165 (P : Params) : Obj := Obj.mk (Value.type "tuple") none (Data.seq #[] 0) #[]
noncomputable def o166 (P : Params) : Obj := Obj.mk Value.none none (Data.func (FuncData.mk (Str.ofString "row") (Str.ofString "Negated.row") (pa (inn 5 1)) (bo (inn 5 1)) (sc (inn 2 1)) 0 [] Value.none Value.none Value.none Value.none none Value.none Value.none 0)) #[]
noncomputable def o167 (P : Params) : Obj := Obj.mk (Value.type "code") none (Data.fields #[Value.str (Str.ofString "row") 330, Value.str (Str.ofString "Negated.row") 331, Value.str (Str.ofString "/claim/cut.py") 332, Value.int 34 0, Value.int 1 0, Value.int 0 0, Value.int 0 0, Value.int 3 0, Value.ref 120, Value.bool Bool.true, Value.int 181 0, Value.ref 121, Value.none, Value.ref 122, Value.ref 123, Value.ref 124, Value.int 334 0, Value.int 34 0, Value.str (Str.ofString "/claim/cut.py") 335]) #[]
noncomputable def o168 (P : Params) : Obj := Obj.mk (Value.type "function") none (Data.func (FuncData.mk (Str.ofString "row") (Str.ofString "Negated.row") (pa (inn 5 1)) (bo (inn 5 1)) (sc (inn 2 1)) 3 [] Value.none Value.none Value.none (Value.str (Str.ofString "markupmill.xpath_nodes") 194) none (Value.ref 125) Value.none 0)) #[]
noncomputable def o169 (P : Params) : Obj := Obj.mk (Value.type "tuple") none (Data.seq #[Value.str (Str.ofString "value") 337] 0) #[]
noncomputable def o170 (P : Params) : Obj := Obj.mk (Value.type "dict") none (Data.dict #[DictEntry.mk (PyData.keyHash P (Str.ofString "__module__")) (Value.str (Str.ofString "__module__") 317) (Value.str (Str.ofString "markupmill.xpath_nodes") 194), DictEntry.mk (PyData.keyHash P (Str.ofString "__firstlineno__")) (Value.str (Str.ofString "__firstlineno__") 321) (Value.int 29 320), DictEntry.mk (PyData.keyHash P (Str.ofString "__init__")) (Value.str (Str.ofString "__init__") 329) (Value.ref 119), DictEntry.mk (PyData.keyHash P (Str.ofString "row")) (Value.str (Str.ofString "row") 336) (Value.ref 126), DictEntry.mk (PyData.keyHash P (Str.ofString "__static_attributes__")) (Value.str (Str.ofString "__static_attributes__") 338) (Value.ref 127), DictEntry.mk (PyData.keyHash P (Str.ofString "__dict__")) (Value.str (Str.ofString "__dict__") 340) (Value.ref 130), DictEntry.mk (PyData.keyHash P (Str.ofString "__weakref__")) (Value.str (Str.ofString "__weakref__") 342) (Value.ref 131), DictEntry.mk (PyData.keyHash P (Str.ofString "__doc__")) (Value.str (Str.ofString "__doc__") 343) Value.none] 4) #[]
noncomputable def o171 (P : Params) : Obj := Obj.mk (Value.type "type") none (Data.cls (ClassData.mk (Str.ofString "Negated") [Value.type "object"] [Value.ref 129, Value.type "object"] 128 (Str.ofString "Negated") Bool.true [] [] Bool.false none Bool.false)) #[none, none, some (Value.str (Str.ofString "Negated") 310), some (Value.str (Str.ofString "Negated") 318), some (Value.builtin "object.__new__"), some (Value.bool Bool.true)]
noncomputable def o172 (P : Params) : Obj := Obj.mk (Value.type "getset_descriptor") none (Data.fields #[Value.str (Str.ofString "__dict__") 339, Value.ref 129, Value.builtin "function.__dict__", Value.builtin "function.__dict__#set"]) #[]
noncomputable def o173 (P : Params) : Obj := Obj.mk (Value.type "getset_descriptor") none (Data.fields #[Value.str (Str.ofString "__weakref__") 341, Value.ref 129, Value.builtin "ExceptionGroup.__weakref__", Value.none]) #[]
noncomputable def o174 (P : Params) : Obj := Obj.mk (Value.type "super") none (Data.fields #[Value.ref 129, Value.ref 129, Value.ref 129]) #[]
noncomputable def o175 (P : Params) : Obj := Obj.mk (Value.type "builtin_function_or_method") none (Data.fields #[Value.builtin "object.__init_subclass__", Value.ref 129]) #[]
noncomputable def o176 (P : Params) : Obj := Obj.mk (Value.type "dict") none (Data.dict #[DictEntry.mk (PyData.keyHash P (Str.ofString "__name__")) (Value.str (Str.ofString "__name__") 165) (Value.str (Str.ofString "markupmill.xpath_nodes") 194), DictEntry.mk (PyData.keyHash P (Str.ofString "__doc__")) (Value.str (Str.ofString "__doc__") 166) Value.none, DictEntry.mk (PyData.keyHash P (Str.ofString "__package__")) (Value.str (Str.ofString "__package__") 167) Value.none, DictEntry.mk (PyData.keyHash P (Str.ofString "__loader__")) (Value.str (Str.ofString "__loader__") 168) (Value.builtin "__main__.__loader__#opaque"), DictEntry.mk (PyData.keyHash P (Str.ofString "__spec__")) (Value.str (Str.ofString "__spec__") 169) Value.none, DictEntry.mk (PyData.keyHash P (Str.ofString "__annotations__")) (Value.str (Str.ofString "__annotations__") 170) (Value.ref 6), DictEntry.mk (PyData.keyHash P (Str.ofString "__builtins__")) (Value.str (Str.ofString "__builtins__") 171) (Value.ref 4), DictEntry.mk (PyData.keyHash P (Str.ofString "__file__")) (Value.str (Str.ofString "__file__") 173) (Value.str (Str.ofString "/claim/cut.py") 172), DictEntry.mk (PyData.keyHash P (Str.ofString "__cached__")) (Value.str (Str.ofString "__cached__") 174) Value.none, DictEntry.mk (PyData.keyHash P (Str.ofString "_wall")) (Value.str (Str.ofString "_wall") 193) (Value.ref 21), DictEntry.mk (PyData.keyHash P (Str.ofString "Literal")) (Value.str (Str.ofString "Literal") 231) (Value.ref 45), DictEntry.mk (PyData.keyHash P (Str.ofString "Call")) (Value.str (Str.ofString "Call") 269) (Value.ref 73), DictEntry.mk (PyData.keyHash P (Str.ofString "Binary")) (Value.str (Str.ofString "Binary") 309) (Value.ref 101), DictEntry.mk (PyData.keyHash P (Str.ofString "Negated")) (Value.str (Str.ofString "Negated") 345) (Value.ref 129), DictEntry.mk (PyData.keyHash P (Str.ofString "Filter")) (Value.str (Str.ofString "Filter") 383) (Value.ref 157)] 15) #[]
noncomputable def o177 (P : Params) : Obj := Obj.mk Value.none none (Data.fields #[Value.int 1 0, Value.int 0 0, Value.ref 20, Value.int 5 0, Value.int 0 0, Value.ref 27, Value.int 12 0, Value.int 0 0, Value.ref 55, Value.int 20 0, Value.int 0 0, Value.ref 83, Value.int 29 0, Value.int 0 0, Value.ref 111, Value.int 36 0, Value.int 0 0, Value.ref 139]) #[]
noncomputable def o178 (P : Params) : Obj := Obj.mk (Value.type "tuple") none (Data.seq #[] 0) #[]
noncomputable def o179 (P : Params) : Obj := Obj.mk (Value.type "builtin_function_or_method") none (Data.fields #[Value.builtin "type.__prepare__", Value.type "type"]) #[]
noncomputable def o180 (P : Params) : Obj := Obj.mk (Value.type "dict") none (Data.dict #[DictEntry.mk (PyData.keyHash P (Str.ofString "__module__")) (Value.str (Str.ofString "__module__") 353) (Value.str (Str.ofString "markupmill.xpath_nodes") 194), DictEntry.mk (PyData.keyHash P (Str.ofString "__qualname__")) (Value.str (Str.ofString "__qualname__") 355) (Value.str (Str.ofString "Filter") 354), DictEntry.mk (PyData.keyHash P (Str.ofString "__firstlineno__")) (Value.str (Str.ofString "__firstlineno__") 357) (Value.int 36 356), DictEntry.mk (PyData.keyHash P (Str.ofString "__init__")) (Value.str (Str.ofString "__init__") 366) (Value.ref 147), DictEntry.mk (PyData.keyHash P (Str.ofString "row")) (Value.str (Str.ofString "row") 373) (Value.ref 154), DictEntry.mk (PyData.keyHash P (Str.ofString "__static_attributes__")) (Value.str (Str.ofString "__static_attributes__") 376) (Value.ref 155)] 6) #[]
noncomputable def o181 (P : Params) : Obj := Obj.mk (Value.type "tuple") none (Data.seq #[] 0) #[]
noncomputable def o182 (P : Params) : Obj := Obj.mk Value.none none (Data.fields #[Value.int 38 0, Value.int 4 0, Value.ref 146, Value.int 42 0, Value.int 4 0, Value.ref 153]) #[]
noncomputable def o183 (P : Params) : Obj := Obj.mk (Value.type "code") none (Data.fields #[Value.str (Str.ofString "Filter") 348, Value.str (Str.ofString "Filter") 349, Value.str (Str.ofString "/claim/cut.py") 350, Value.int 36 0, Value.int 0 0, Value.int 0 0, Value.int 0 0, Value.int 0 0, Value.ref 137, Value.bool Bool.false, Value.int 181 0, Value.ref 138, Value.none, Value.none, Value.none, Value.none, Value.int 351 0, Value.int 36 0, Value.str (Str.ofString "/claim/cut.py") 352]) #[]
noncomputable def o184 (P : Params) : Obj := Obj.mk (Value.type "frame") none Data.plain #[some (Value.ref 139), some (Value.ref 3), some (Value.ref 136), none, some (Value.str (Str.ofString "markupmill.xpath_nodes") 194), none, some (Value.ref 0)]
noncomputable def o185 (P : Params) : Obj := Obj.mk (Value.type "tuple") none (Data.seq #[] 0) #[]
noncomputable def o186 (P : Params) : Obj := Obj.mk Value.none none (Data.fields #[]) #[]
noncomputable def o187 (P : Params) : Obj := Obj.mk (Value.type "tuple") none (Data.seq #[Value.str (Str.ofString "self") 361, Value.str (Str.ofString "base") 362, Value.str (Str.ofString "predicates") 363] 0) #[]
noncomputable def o188 (P : Params) : Obj := Obj.mk (Value.type "tuple") none (Data.seq #[] 0) #[]
noncomputable def o189 (P : Params) : Obj := Obj.mk Value.none none (Data.func (FuncData.mk (Str.ofString "__init__") (Str.ofString "Filter.__init__") (pa (inn 6 0)) (bo (inn 6 0)) (sc (inn 6 0)) 0 [] Value.none Value.none Value.none Value.none none Value.none Value.none 0)) #[]
noncomputable def o190 (P : Params) : Obj := Obj.mk (Value.type "code") none (Data.fields #[Value.str (Str.ofString "__init__") 358, Value.str (Str.ofString "Filter.__init__") 359, Value.str (Str.ofString "/claim/cut.py") 360, Value.int 38 0, Value.int 3 0, Value.int 0 0, Value.int 0 0, Value.int 3 0, Value.ref 141, Value.bool Bool.true, Value.int 181 0, Value.ref 142, Value.none, Value.ref 143, Value.ref 144, Value.ref 145, Value.int 364 0, Value.int 38 0, Value.str (Str.ofString "/claim/cut.py") 365]) #[]
noncomputable def o191 (P : Params) : Obj := Obj.mk (Value.type "function") none (Data.func (FuncData.mk (Str.ofString "__init__") (Str.ofString "Filter.__init__") (pa (inn 6 0)) (bo (inn 6 0)) (sc (inn 6 0)) 3 [] Value.none Value.none Value.none (Value.str (Str.ofString "markupmill.xpath_nodes") 194) none (Value.ref 146) Value.none 0)) #[]
noncomputable def o192 (P : Params) : Obj := Obj.mk (Value.type "tuple") none (Data.seq #[] 0) #[]
noncomputable def o193 (P : Params) : Obj := Obj.mk Value.none none (Data.fields #[]) #[]
noncomputable def o194 (P : Params) : Obj := Obj.mk (Value.type "tuple") none (Data.seq #[Value.str (Str.ofString "self") 370] 0) #[]
noncomputable def o195 (P : Params) : Obj := Obj.mk (Value.type "tuple") none (Data.seq #[] 0) #[]
noncomputable def o196 (P : Params) : Obj := Obj.mk Value.none none (Data.func (FuncData.mk (Str.ofString "row") (Str.ofString "Filter.row") (pa (inn 6 1)) (bo (inn 6 1)) (sc (inn 2 1)) 0 [] Value.none Value.none Value.none Value.none none Value.none Value.none 0)) #[]
noncomputable def o197 (P : Params) : Obj := Obj.mk (Value.type "code") none (Data.fields #[Value.str (Str.ofString "row") 367, Value.str (Str.ofString "Filter.row") 368, Value.str (Str.ofString "/claim/cut.py") 369, Value.int 42 0, Value.int 1 0, Value.int 0 0, Value.int 0 0, Value.int 3 0, Value.ref 148, Value.bool Bool.true, Value.int 181 0, Value.ref 149, Value.none, Value.ref 150, Value.ref 151, Value.ref 152, Value.int 371 0, Value.int 42 0, Value.str (Str.ofString "/claim/cut.py") 372]) #[]
noncomputable def o198 (P : Params) : Obj := Obj.mk (Value.type "function") none (Data.func (FuncData.mk (Str.ofString "row") (Str.ofString "Filter.row") (pa (inn 6 1)) (bo (inn 6 1)) (sc (inn 2 1)) 3 [] Value.none Value.none Value.none (Value.str (Str.ofString "markupmill.xpath_nodes") 194) none (Value.ref 153) Value.none 0)) #[]
noncomputable def o199 (P : Params) : Obj := Obj.mk (Value.type "tuple") none (Data.seq #[Value.str (Str.ofString "base") 374, Value.str (Str.ofString "predicates") 375] 0) #[]
noncomputable def o200 (P : Params) : Obj := Obj.mk (Value.type "dict") none (Data.dict #[DictEntry.mk (PyData.keyHash P (Str.ofString "__module__")) (Value.str (Str.ofString "__module__") 353) (Value.str (Str.ofString "markupmill.xpath_nodes") 194), DictEntry.mk (PyData.keyHash P (Str.ofString "__firstlineno__")) (Value.str (Str.ofString "__firstlineno__") 357) (Value.int 36 356), DictEntry.mk (PyData.keyHash P (Str.ofString "__init__")) (Value.str (Str.ofString "__init__") 366) (Value.ref 147), DictEntry.mk (PyData.keyHash P (Str.ofString "row")) (Value.str (Str.ofString "row") 373) (Value.ref 154), DictEntry.mk (PyData.keyHash P (Str.ofString "__static_attributes__")) (Value.str (Str.ofString "__static_attributes__") 376) (Value.ref 155), DictEntry.mk (PyData.keyHash P (Str.ofString "__dict__")) (Value.str (Str.ofString "__dict__") 378) (Value.ref 158), DictEntry.mk (PyData.keyHash P (Str.ofString "__weakref__")) (Value.str (Str.ofString "__weakref__") 380) (Value.ref 159), DictEntry.mk (PyData.keyHash P (Str.ofString "__doc__")) (Value.str (Str.ofString "__doc__") 381) Value.none] 4) #[]
noncomputable def o201 (P : Params) : Obj := Obj.mk (Value.type "type") none (Data.cls (ClassData.mk (Str.ofString "Filter") [Value.type "object"] [Value.ref 157, Value.type "object"] 156 (Str.ofString "Filter") Bool.true [] [] Bool.false none Bool.false)) #[none, none, some (Value.str (Str.ofString "Filter") 346), some (Value.str (Str.ofString "Filter") 354), some (Value.builtin "object.__new__"), some (Value.bool Bool.true)]
noncomputable def o202 (P : Params) : Obj := Obj.mk (Value.type "getset_descriptor") none (Data.fields #[Value.str (Str.ofString "__dict__") 377, Value.ref 157, Value.builtin "function.__dict__", Value.builtin "function.__dict__#set"]) #[]
noncomputable def o203 (P : Params) : Obj := Obj.mk (Value.type "getset_descriptor") none (Data.fields #[Value.str (Str.ofString "__weakref__") 379, Value.ref 157, Value.builtin "ExceptionGroup.__weakref__", Value.none]) #[]
noncomputable def o204 (P : Params) : Obj := Obj.mk (Value.type "super") none (Data.fields #[Value.ref 157, Value.ref 157, Value.ref 157]) #[]
noncomputable def o205 (P : Params) : Obj := Obj.mk (Value.type "builtin_function_or_method") none (Data.fields #[Value.builtin "object.__init_subclass__", Value.ref 157]) #[]
noncomputable def o206 (P : Params) : Obj := Obj.mk (Value.type "dict") none (Data.dict #[DictEntry.mk (PyData.keyHash P (Str.ofString "__name__")) (Value.str (Str.ofString "__name__") 165) (Value.str (Str.ofString "markupmill.xpath_nodes") 194), DictEntry.mk (PyData.keyHash P (Str.ofString "__doc__")) (Value.str (Str.ofString "__doc__") 166) Value.none, DictEntry.mk (PyData.keyHash P (Str.ofString "__package__")) (Value.str (Str.ofString "__package__") 167) Value.none, DictEntry.mk (PyData.keyHash P (Str.ofString "__loader__")) (Value.str (Str.ofString "__loader__") 168) (Value.builtin "__main__.__loader__#opaque"), DictEntry.mk (PyData.keyHash P (Str.ofString "__spec__")) (Value.str (Str.ofString "__spec__") 169) Value.none, DictEntry.mk (PyData.keyHash P (Str.ofString "__annotations__")) (Value.str (Str.ofString "__annotations__") 170) (Value.ref 6), DictEntry.mk (PyData.keyHash P (Str.ofString "__builtins__")) (Value.str (Str.ofString "__builtins__") 171) (Value.ref 4), DictEntry.mk (PyData.keyHash P (Str.ofString "__file__")) (Value.str (Str.ofString "__file__") 173) (Value.str (Str.ofString "/claim/cut.py") 172), DictEntry.mk (PyData.keyHash P (Str.ofString "__cached__")) (Value.str (Str.ofString "__cached__") 174) Value.none, DictEntry.mk (PyData.keyHash P (Str.ofString "_wall")) (Value.str (Str.ofString "_wall") 193) (Value.ref 21), DictEntry.mk (PyData.keyHash P (Str.ofString "Literal")) (Value.str (Str.ofString "Literal") 231) (Value.ref 45), DictEntry.mk (PyData.keyHash P (Str.ofString "Call")) (Value.str (Str.ofString "Call") 269) (Value.ref 73), DictEntry.mk (PyData.keyHash P (Str.ofString "Binary")) (Value.str (Str.ofString "Binary") 309) (Value.ref 101), DictEntry.mk (PyData.keyHash P (Str.ofString "Negated")) (Value.str (Str.ofString "Negated") 345) (Value.ref 129), DictEntry.mk (PyData.keyHash P (Str.ofString "Filter")) (Value.str (Str.ofString "Filter") 383) (Value.ref 157), DictEntry.mk (PyData.keyHash P (Str.ofString "Path")) (Value.str (Str.ofString "Path") 421) (Value.ref 185)] 16) #[]
noncomputable def o207 (P : Params) : Obj := Obj.mk Value.none none (Data.fields #[Value.int 1 0, Value.int 0 0, Value.ref 20, Value.int 5 0, Value.int 0 0, Value.ref 27, Value.int 12 0, Value.int 0 0, Value.ref 55, Value.int 20 0, Value.int 0 0, Value.ref 83, Value.int 29 0, Value.int 0 0, Value.ref 111, Value.int 36 0, Value.int 0 0, Value.ref 139, Value.int 44 0, Value.int 0 0, Value.ref 167]) #[]
noncomputable def o208 (P : Params) : Obj := Obj.mk (Value.type "tuple") none (Data.seq #[] 0) #[]
noncomputable def o209 (P : Params) : Obj := Obj.mk (Value.type "builtin_function_or_method") none (Data.fields #[Value.builtin "type.__prepare__", Value.type "type"]) #[]
noncomputable def o210 (P : Params) : Obj := Obj.mk (Value.type "dict") none (Data.dict #[DictEntry.mk (PyData.keyHash P (Str.ofString "__module__")) (Value.str (Str.ofString "__module__") 391) (Value.str (Str.ofString "markupmill.xpath_nodes") 194), DictEntry.mk (PyData.keyHash P (Str.ofString "__qualname__")) (Value.str (Str.ofString "__qualname__") 393) (Value.str (Str.ofString "Path") 392), DictEntry.mk (PyData.keyHash P (Str.ofString "__firstlineno__")) (Value.str (Str.ofString "__firstlineno__") 395) (Value.int 44 394), DictEntry.mk (PyData.keyHash P (Str.ofString "__init__")) (Value.str (Str.ofString "__init__") 404) (Value.ref 175), DictEntry.mk (PyData.keyHash P (Str.ofString "row")) (Value.str (Str.ofString "row") 411) (Value.ref 182), DictEntry.mk (PyData.keyHash P (Str.ofString "__static_attributes__")) (Value.str (Str.ofString "__static_attributes__") 414) (Value.ref 183)] 6) #[]
noncomputable def o211 (P : Params) : Obj := Obj.mk (Value.type "tuple") none (Data.seq #[] 0) #[]
noncomputable def o212 (P : Params) : Obj := Obj.mk Value.none none (Data.fields #[Value.int 46 0, Value.int 4 0, Value.ref 174, Value.int 50 0, Value.int 4 0, Value.ref 181]) #[]
noncomputable def o213 (P : Params) : Obj := Obj.mk (Value.type "code") none (Data.fields #[Value.str (Str.ofString "Path") 386, Value.str (Str.ofString "Path") 387, Value.str (Str.ofString "/claim/cut.py") 388, Value.int 44 0, Value.int 0 0, Value.int 0 0, Value.int 0 0, Value.int 0 0, Value.ref 165, Value.bool Bool.false, Value.int 181 0, Value.ref 166, Value.none, Value.none, Value.none, Value.none, Value.int 389 0, Value.int 44 0, Value.str (Str.ofString "/claim/cut.py") 390]) #[]
noncomputable def o214 (P : Params) : Obj := Obj.mk (Value.type "frame") none Data.plain #[some (Value.ref 167), some (Value.ref 3), some (Value.ref 164), none, some (Value.str (Str.ofString "markupmill.xpath_nodes") 194), none, some (Value.ref 0)]
noncomputable def o215 (P : Params) : Obj := Obj.mk (Value.type "tuple") none (Data.seq #[] 0) #[]
noncomputable def o216 (P : Params) : Obj := Obj.mk Value.none none (Data.fields #[]) #[]
noncomputable def o217 (P : Params) : Obj := Obj.mk (Value.type "tuple") none (Data.seq #[Value.str (Str.ofString "self") 399, Value.str (Str.ofString "start") 400, Value.str (Str.ofString "steps") 401] 0) #[]
noncomputable def o218 (P : Params) : Obj := Obj.mk (Value.type "tuple") none (Data.seq #[] 0) #[]
noncomputable def o219 (P : Params) : Obj := Obj.mk Value.none none (Data.func (FuncData.mk (Str.ofString "__init__") (Str.ofString "Path.__init__") (pa (inn 7 0)) (bo (inn 7 0)) (sc (inn 7 0)) 0 [] Value.none Value.none Value.none Value.none none Value.none Value.none 0)) #[]
noncomputable def o220 (P : Params) : Obj := Obj.mk (Value.type "code") none (Data.fields #[Value.str (Str.ofString "__init__") 396, Value.str (Str.ofString "Path.__init__") 397, Value.str (Str.ofString "/claim/cut.py") 398, Value.int 46 0, Value.int 3 0, Value.int 0 0, Value.int 0 0, Value.int 3 0, Value.ref 169, Value.bool Bool.true, Value.int 181 0, Value.ref 170, Value.none, Value.ref 171, Value.ref 172, Value.ref 173, Value.int 402 0, Value.int 46 0, Value.str (Str.ofString "/claim/cut.py") 403]) #[]
noncomputable def o221 (P : Params) : Obj := Obj.mk (Value.type "function") none (Data.func (FuncData.mk (Str.ofString "__init__") (Str.ofString "Path.__init__") (pa (inn 7 0)) (bo (inn 7 0)) (sc (inn 7 0)) 3 [] Value.none Value.none Value.none (Value.str (Str.ofString "markupmill.xpath_nodes") 194) none (Value.ref 174) Value.none 0)) #[]
noncomputable def o222 (P : Params) : Obj := Obj.mk (Value.type "tuple") none (Data.seq #[] 0) #[]
noncomputable def o223 (P : Params) : Obj := Obj.mk Value.none none (Data.fields #[]) #[]
noncomputable def o224 (P : Params) : Obj := Obj.mk (Value.type "tuple") none (Data.seq #[Value.str (Str.ofString "self") 408] 0) #[]
noncomputable def o225 (P : Params) : Obj := Obj.mk (Value.type "tuple") none (Data.seq #[] 0) #[]
noncomputable def o226 (P : Params) : Obj := Obj.mk Value.none none (Data.func (FuncData.mk (Str.ofString "row") (Str.ofString "Path.row") (pa (inn 7 1)) (bo (inn 7 1)) (sc (inn 2 1)) 0 [] Value.none Value.none Value.none Value.none none Value.none Value.none 0)) #[]
noncomputable def o227 (P : Params) : Obj := Obj.mk (Value.type "code") none (Data.fields #[Value.str (Str.ofString "row") 405, Value.str (Str.ofString "Path.row") 406, Value.str (Str.ofString "/claim/cut.py") 407, Value.int 50 0, Value.int 1 0, Value.int 0 0, Value.int 0 0, Value.int 3 0, Value.ref 176, Value.bool Bool.true, Value.int 181 0, Value.ref 177, Value.none, Value.ref 178, Value.ref 179, Value.ref 180, Value.int 409 0, Value.int 50 0, Value.str (Str.ofString "/claim/cut.py") 410]) #[]
noncomputable def o228 (P : Params) : Obj := Obj.mk (Value.type "function") none (Data.func (FuncData.mk (Str.ofString "row") (Str.ofString "Path.row") (pa (inn 7 1)) (bo (inn 7 1)) (sc (inn 2 1)) 3 [] Value.none Value.none Value.none (Value.str (Str.ofString "markupmill.xpath_nodes") 194) none (Value.ref 181) Value.none 0)) #[]
noncomputable def o229 (P : Params) : Obj := Obj.mk (Value.type "tuple") none (Data.seq #[Value.str (Str.ofString "start") 412, Value.str (Str.ofString "steps") 413] 0) #[]
noncomputable def o230 (P : Params) : Obj := Obj.mk (Value.type "dict") none (Data.dict #[DictEntry.mk (PyData.keyHash P (Str.ofString "__module__")) (Value.str (Str.ofString "__module__") 391) (Value.str (Str.ofString "markupmill.xpath_nodes") 194), DictEntry.mk (PyData.keyHash P (Str.ofString "__firstlineno__")) (Value.str (Str.ofString "__firstlineno__") 395) (Value.int 44 394), DictEntry.mk (PyData.keyHash P (Str.ofString "__init__")) (Value.str (Str.ofString "__init__") 404) (Value.ref 175), DictEntry.mk (PyData.keyHash P (Str.ofString "row")) (Value.str (Str.ofString "row") 411) (Value.ref 182), DictEntry.mk (PyData.keyHash P (Str.ofString "__static_attributes__")) (Value.str (Str.ofString "__static_attributes__") 414) (Value.ref 183), DictEntry.mk (PyData.keyHash P (Str.ofString "__dict__")) (Value.str (Str.ofString "__dict__") 416) (Value.ref 186), DictEntry.mk (PyData.keyHash P (Str.ofString "__weakref__")) (Value.str (Str.ofString "__weakref__") 418) (Value.ref 187), DictEntry.mk (PyData.keyHash P (Str.ofString "__doc__")) (Value.str (Str.ofString "__doc__") 419) Value.none] 4) #[]
noncomputable def o231 (P : Params) : Obj := Obj.mk (Value.type "type") none (Data.cls (ClassData.mk (Str.ofString "Path") [Value.type "object"] [Value.ref 185, Value.type "object"] 184 (Str.ofString "Path") Bool.true [] [] Bool.false none Bool.false)) #[none, none, some (Value.str (Str.ofString "Path") 384), some (Value.str (Str.ofString "Path") 392), some (Value.builtin "object.__new__"), some (Value.bool Bool.true)]
noncomputable def o232 (P : Params) : Obj := Obj.mk (Value.type "getset_descriptor") none (Data.fields #[Value.str (Str.ofString "__dict__") 415, Value.ref 185, Value.builtin "function.__dict__", Value.builtin "function.__dict__#set"]) #[]
noncomputable def o233 (P : Params) : Obj := Obj.mk (Value.type "getset_descriptor") none (Data.fields #[Value.str (Str.ofString "__weakref__") 417, Value.ref 185, Value.builtin "ExceptionGroup.__weakref__", Value.none]) #[]
noncomputable def o234 (P : Params) : Obj := Obj.mk (Value.type "super") none (Data.fields #[Value.ref 185, Value.ref 185, Value.ref 185]) #[]
noncomputable def o235 (P : Params) : Obj := Obj.mk (Value.type "builtin_function_or_method") none (Data.fields #[Value.builtin "object.__init_subclass__", Value.ref 185]) #[]
noncomputable def o236 (P : Params) : Obj := Obj.mk (Value.type "dict") none (Data.dict #[DictEntry.mk (PyData.keyHash P (Str.ofString "__name__")) (Value.str (Str.ofString "__name__") 165) (Value.str (Str.ofString "markupmill.pattern_reader") 462), DictEntry.mk (PyData.keyHash P (Str.ofString "__doc__")) (Value.str (Str.ofString "__doc__") 166) Value.none, DictEntry.mk (PyData.keyHash P (Str.ofString "__package__")) (Value.str (Str.ofString "__package__") 167) Value.none, DictEntry.mk (PyData.keyHash P (Str.ofString "__loader__")) (Value.str (Str.ofString "__loader__") 168) (Value.builtin "__main__.__loader__#opaque"), DictEntry.mk (PyData.keyHash P (Str.ofString "__spec__")) (Value.str (Str.ofString "__spec__") 169) Value.none, DictEntry.mk (PyData.keyHash P (Str.ofString "__annotations__")) (Value.str (Str.ofString "__annotations__") 170) (Value.ref 6), DictEntry.mk (PyData.keyHash P (Str.ofString "__builtins__")) (Value.str (Str.ofString "__builtins__") 171) (Value.ref 4), DictEntry.mk (PyData.keyHash P (Str.ofString "__file__")) (Value.str (Str.ofString "__file__") 173) (Value.str (Str.ofString "/claim/cut.py") 172), DictEntry.mk (PyData.keyHash P (Str.ofString "__cached__")) (Value.str (Str.ofString "__cached__") 174) Value.none, DictEntry.mk (PyData.keyHash P (Str.ofString "_wall")) (Value.str (Str.ofString "_wall") 193) (Value.ref 21), DictEntry.mk (PyData.keyHash P (Str.ofString "Literal")) (Value.str (Str.ofString "Literal") 231) (Value.ref 45), DictEntry.mk (PyData.keyHash P (Str.ofString "Call")) (Value.str (Str.ofString "Call") 269) (Value.ref 73), DictEntry.mk (PyData.keyHash P (Str.ofString "Binary")) (Value.str (Str.ofString "Binary") 309) (Value.ref 101), DictEntry.mk (PyData.keyHash P (Str.ofString "Negated")) (Value.str (Str.ofString "Negated") 345) (Value.ref 129), DictEntry.mk (PyData.keyHash P (Str.ofString "Filter")) (Value.str (Str.ofString "Filter") 383) (Value.ref 157), DictEntry.mk (PyData.keyHash P (Str.ofString "Path")) (Value.str (Str.ofString "Path") 421) (Value.ref 185), DictEntry.mk (PyData.keyHash P (Str.ofString "Step")) (Value.str (Str.ofString "Step") 461) (Value.ref 213), DictEntry.mk (PyData.keyHash P (Str.ofString "PLAIN")) (Value.str (Str.ofString "PLAIN") 466) (Value.ref 218), DictEntry.mk (PyData.keyHash P (Str.ofString "OF_PREFIX")) (Value.str (Str.ofString "OF_PREFIX") 470) (Value.ref 219), DictEntry.mk (PyData.keyHash P (Str.ofString "OF_KIND")) (Value.str (Str.ofString "OF_KIND") 474) (Value.ref 220), DictEntry.mk (PyData.keyHash P (Str.ofString "OTHER")) (Value.str (Str.ofString "OTHER") 477) (Value.ref 221), DictEntry.mk (PyData.keyHash P (Str.ofString "alternatives")) (Value.str (Str.ofString "alternatives") 487) (Value.ref 228), DictEntry.mk (PyData.keyHash P (Str.ofString "is_any_depth")) (Value.str (Str.ofString "is_any_depth") 494) (Value.ref 235)] 23) #[]
noncomputable def o237 (P : Params) : Obj := Obj.mk Value.none none (Data.fields #[Value.int 1 0, Value.int 0 0, Value.ref 20, Value.int 5 0, Value.int 0 0, Value.ref 27, Value.int 12 0, Value.int 0 0, Value.ref 55, Value.int 20 0, Value.int 0 0, Value.ref 83, Value.int 29 0, Value.int 0 0, Value.ref 111, Value.int 36 0, Value.int 0 0, Value.ref 139, Value.int 44 0, Value.int 0 0, Value.ref 167, Value.int 52 0, Value.int 0 0, Value.ref 195, Value.int 66 0, Value.int 0 0, Value.ref 227, Value.int 76 0, Value.int 0 0, Value.ref 234]) #[]
noncomputable def o238 (P : Params) : Obj := Obj.mk (Value.type "tuple") none (Data.seq #[] 0) #[]
noncomputable def o239 (P : Params) : Obj := Obj.mk (Value.type "builtin_function_or_method") none (Data.fields #[Value.builtin "type.__prepare__", Value.type "type"]) #[]
noncomputable def o240 (P : Params) : Obj := Obj.mk (Value.type "dict") none (Data.dict #[DictEntry.mk (PyData.keyHash P (Str.ofString "__module__")) (Value.str (Str.ofString "__module__") 429) (Value.str (Str.ofString "markupmill.xpath_nodes") 194), DictEntry.mk (PyData.keyHash P (Str.ofString "__qualname__")) (Value.str (Str.ofString "__qualname__") 431) (Value.str (Str.ofString "Step") 430), DictEntry.mk (PyData.keyHash P (Str.ofString "__firstlineno__")) (Value.str (Str.ofString "__firstlineno__") 433) (Value.int 52 432), DictEntry.mk (PyData.keyHash P (Str.ofString "__init__")) (Value.str (Str.ofString "__init__") 443) (Value.ref 203), DictEntry.mk (PyData.keyHash P (Str.ofString "row")) (Value.str (Str.ofString "row") 450) (Value.ref 210), DictEntry.mk (PyData.keyHash P (Str.ofString "__static_attributes__")) (Value.str (Str.ofString "__static_attributes__") 454) (Value.ref 211)] 6) #[]
noncomputable def o241 (P : Params) : Obj := Obj.mk (Value.type "tuple") none (Data.seq #[] 0) #[]
noncomputable def o242 (P : Params) : Obj := Obj.mk Value.none none (Data.fields #[Value.int 54 0, Value.int 4 0, Value.ref 202, Value.int 59 0, Value.int 4 0, Value.ref 209]) #[]
noncomputable def o243 (P : Params) : Obj := Obj.mk (Value.type "code") none (Data.fields #[Value.str (Str.ofString "Step") 424, Value.str (Str.ofString "Step") 425, Value.str (Str.ofString "/claim/cut.py") 426, Value.int 52 0, Value.int 0 0, Value.int 0 0, Value.int 0 0, Value.int 0 0, Value.ref 193, Value.bool Bool.false, Value.int 181 0, Value.ref 194, Value.none, Value.none, Value.none, Value.none, Value.int 427 0, Value.int 52 0, Value.str (Str.ofString "/claim/cut.py") 428]) #[]
noncomputable def o244 (P : Params) : Obj := Obj.mk (Value.type "frame") none Data.plain #[some (Value.ref 195), some (Value.ref 3), some (Value.ref 192), none, some (Value.str (Str.ofString "markupmill.xpath_nodes") 194), none, some (Value.ref 0)]
noncomputable def o245 (P : Params) : Obj := Obj.mk (Value.type "tuple") none (Data.seq #[] 0) #[]
noncomputable def o246 (P : Params) : Obj := Obj.mk Value.none none (Data.fields #[]) #[]
noncomputable def o247 (P : Params) : Obj := Obj.mk (Value.type "tuple") none (Data.seq #[Value.str (Str.ofString "self") 437, Value.str (Str.ofString "axis") 438, Value.str (Str.ofString "test") 439, Value.str (Str.ofString "predicates") 440] 0) #[]
noncomputable def o248 (P : Params) : Obj := Obj.mk (Value.type "tuple") none (Data.seq #[] 0) #[]
noncomputable def o249 (P : Params) : Obj := Obj.mk Value.none none (Data.func (FuncData.mk (Str.ofString "__init__") (Str.ofString "Step.__init__") (pa (inn 8 0)) (bo (inn 8 0)) (sc (inn 8 0)) 0 [] Value.none Value.none Value.none Value.none none Value.none Value.none 0)) #[]
noncomputable def o250 (P : Params) : Obj := Obj.mk (Value.type "code") none (Data.fields #[Value.str (Str.ofString "__init__") 434, Value.str (Str.ofString "Step.__init__") 435, Value.str (Str.ofString "/claim/cut.py") 436, Value.int 54 0, Value.int 4 0, Value.int 0 0, Value.int 0 0, Value.int 3 0, Value.ref 197, Value.bool Bool.true, Value.int 181 0, Value.ref 198, Value.none, Value.ref 199, Value.ref 200, Value.ref 201, Value.int 441 0, Value.int 54 0, Value.str (Str.ofString "/claim/cut.py") 442]) #[]
noncomputable def o251 (P : Params) : Obj := Obj.mk (Value.type "function") none (Data.func (FuncData.mk (Str.ofString "__init__") (Str.ofString "Step.__init__") (pa (inn 8 0)) (bo (inn 8 0)) (sc (inn 8 0)) 3 [] Value.none Value.none Value.none (Value.str (Str.ofString "markupmill.xpath_nodes") 194) none (Value.ref 202) Value.none 0)) #[]
noncomputable def o252 (P : Params) : Obj := Obj.mk (Value.type "tuple") none (Data.seq #[] 0) #[]
noncomputable def o253 (P : Params) : Obj := Obj.mk Value.none none (Data.fields #[]) #[]
noncomputable def o254 (P : Params) : Obj := Obj.mk (Value.type "tuple") none (Data.seq #[Value.str (Str.ofString "self") 447] 0) #[]
noncomputable def o255 (P : Params) : Obj := Obj.mk (Value.type "tuple") none (Data.seq #[] 0) #[]
noncomputable def o256 (P : Params) : Obj := Obj.mk Value.none none (Data.func (FuncData.mk (Str.ofString "row") (Str.ofString "Step.row") (pa (inn 8 1)) (bo (inn 8 1)) (sc (inn 2 1)) 0 [] Value.none Value.none Value.none Value.none none Value.none Value.none 0)) #[]
noncomputable def o257 (P : Params) : Obj := Obj.mk (Value.type "code") none (Data.fields #[Value.str (Str.ofString "row") 444, Value.str (Str.ofString "Step.row") 445, Value.str (Str.ofString "/claim/cut.py") 446, Value.int 59 0, Value.int 1 0, Value.int 0 0, Value.int 0 0, Value.int 3 0, Value.ref 204, Value.bool Bool.true, Value.int 181 0, Value.ref 205, Value.none, Value.ref 206, Value.ref 207, Value.ref 208, Value.int 448 0, Value.int 59 0, Value.str (Str.ofString "/claim/cut.py") 449]) #[]
noncomputable def o258 (P : Params) : Obj := Obj.mk (Value.type "function") none (Data.func (FuncData.mk (Str.ofString "row") (Str.ofString "Step.row") (pa (inn 8 1)) (bo (inn 8 1)) (sc (inn 2 1)) 3 [] Value.none Value.none Value.none (Value.str (Str.ofString "markupmill.xpath_nodes") 194) none (Value.ref 209) Value.none 0)) #[]
noncomputable def o259 (P : Params) : Obj := Obj.mk (Value.type "tuple") none (Data.seq #[Value.str (Str.ofString "axis") 451, Value.str (Str.ofString "predicates") 452, Value.str (Str.ofString "test") 453] 0) #[]
noncomputable def o260 (P : Params) : Obj := Obj.mk (Value.type "dict") none (Data.dict #[DictEntry.mk (PyData.keyHash P (Str.ofString "__module__")) (Value.str (Str.ofString "__module__") 429) (Value.str (Str.ofString "markupmill.xpath_nodes") 194), DictEntry.mk (PyData.keyHash P (Str.ofString "__firstlineno__")) (Value.str (Str.ofString "__firstlineno__") 433) (Value.int 52 432), DictEntry.mk (PyData.keyHash P (Str.ofString "__init__")) (Value.str (Str.ofString "__init__") 443) (Value.ref 203), DictEntry.mk (PyData.keyHash P (Str.ofString "row")) (Value.str (Str.ofString "row") 450) (Value.ref 210), DictEntry.mk (PyData.keyHash P (Str.ofString "__static_attributes__")) (Value.str (Str.ofString "__static_attributes__") 454) (Value.ref 211), DictEntry.mk (PyData.keyHash P (Str.ofString "__dict__")) (Value.str (Str.ofString "__dict__") 456) (Value.ref 214), DictEntry.mk (PyData.keyHash P (Str.ofString "__weakref__")) (Value.str (Str.ofString "__weakref__") 458) (Value.ref 215), DictEntry.mk (PyData.keyHash P (Str.ofString "__doc__")) (Value.str (Str.ofString "__doc__") 459) Value.none] 4) #[]
noncomputable def o261 (P : Params) : Obj := Obj.mk (Value.type "type") none (Data.cls (ClassData.mk (Str.ofString "Step") [Value.type "object"] [Value.ref 213, Value.type "object"] 212 (Str.ofString "Step") Bool.true [] [] Bool.false none Bool.false)) #[none, none, some (Value.str (Str.ofString "Step") 422), some (Value.str (Str.ofString "Step") 430), some (Value.builtin "object.__new__"), some (Value.bool Bool.true)]
noncomputable def o262 (P : Params) : Obj := Obj.mk (Value.type "getset_descriptor") none (Data.fields #[Value.str (Str.ofString "__dict__") 455, Value.ref 213, Value.builtin "function.__dict__", Value.builtin "function.__dict__#set"]) #[]
noncomputable def o263 (P : Params) : Obj := Obj.mk (Value.type "getset_descriptor") none (Data.fields #[Value.str (Str.ofString "__weakref__") 457, Value.ref 213, Value.builtin "ExceptionGroup.__weakref__", Value.none]) #[]
noncomputable def o264 (P : Params) : Obj := Obj.mk (Value.type "super") none (Data.fields #[Value.ref 213, Value.ref 213, Value.ref 213]) #[]
noncomputable def o265 (P : Params) : Obj := Obj.mk (Value.type "builtin_function_or_method") none (Data.fields #[Value.builtin "object.__init_subclass__", Value.ref 213]) #[]
noncomputable def o266 (P : Params) : Obj := Obj.mk (Value.type "tuple") none (Data.seq #[Value.int 0 464, Value.int 1 465] 0) #[]
noncomputable def o267 (P : Params) : Obj := Obj.mk (Value.type "tuple") none (Data.seq #[Value.int (Neg.neg 1) 468, Value.int 4 469] 0) #[]
noncomputable def o268 (P : Params) : Obj := Obj.mk (Value.type "tuple") none (Data.seq #[Value.int (Neg.neg 1) 472, Value.int 2 473] 0) #[]
noncomputable def o269 (P : Params) : Obj := Obj.mk (Value.type "tuple") none (Data.seq #[Value.int 1 475, Value.int 2 476] 0) #[]
noncomputable def o270 (P : Params) : Obj := Obj.mk (Value.type "tuple") none (Data.seq #[] 0) #[]
noncomputable def o271 (P : Params) : Obj := Obj.mk Value.none none (Data.fields #[]) #[]
noncomputable def o272 (P : Params) : Obj := Obj.mk (Value.type "tuple") none (Data.seq #[Value.str (Str.ofString "expr") 481, Value.str (Str.ofString "found") 482, Value.str (Str.ofString "left") 483, Value.str (Str.ofString "one") 484] 0) #[]
noncomputable def o273 (P : Params) : Obj := Obj.mk (Value.type "tuple") none (Data.seq #[] 0) #[]
noncomputable def o274 (P : Params) : Obj := Obj.mk Value.none none (Data.func (FuncData.mk (Str.ofString "alternatives") (Str.ofString "alternatives") (pa (st 14)) (bo (st 14)) (sc (st 14)) 0 [] Value.none Value.none Value.none Value.none none Value.none Value.none 0)) #[]
noncomputable def o275 (P : Params) : Obj := Obj.mk (Value.type "code") none (Data.fields #[Value.str (Str.ofString "alternatives") 478, Value.str (Str.ofString "alternatives") 479, Value.str (Str.ofString "/claim/cut.py") 480, Value.int 66 0, Value.int 1 0, Value.int 0 0, Value.int 0 0, Value.int 3 0, Value.ref 222, Value.bool Bool.true, Value.int 181 0, Value.ref 223, Value.none, Value.ref 224, Value.ref 225, Value.ref 226, Value.int 485 0, Value.int 66 0, Value.str (Str.ofString "/claim/cut.py") 486]) #[]
noncomputable def o276 (P : Params) : Obj := Obj.mk (Value.type "function") none (Data.func (FuncData.mk (Str.ofString "alternatives") (Str.ofString "alternatives") (pa (st 14)) (bo (st 14)) (sc (st 14)) 3 [] Value.none Value.none Value.none (Value.str (Str.ofString "markupmill.pattern_reader") 462) none (Value.ref 227) Value.none 0)) #[]
noncomputable def o277 (P : Params) : Obj := Obj.mk (Value.type "tuple") none (Data.seq #[] 0) #[]
noncomputable def o278 (P : Params) : Obj := Obj.mk Value.none none (Data.fields #[]) #[]
noncomputable def o279 (P : Params) : Obj := Obj.mk (Value.type "tuple") none (Data.seq #[Value.str (Str.ofString "step") 491] 0) #[]
noncomputable def o280 (P : Params) : Obj := Obj.mk (Value.type "tuple") none (Data.seq #[] 0) #[]
noncomputable def o281 (P : Params) : Obj := Obj.mk Value.none none (Data.func (FuncData.mk (Str.ofString "is_any_depth") (Str.ofString "is_any_depth") (pa (st 15)) (bo (st 15)) (sc (st 15)) 0 [] Value.none Value.none Value.none Value.none none Value.none Value.none 0)) #[]
noncomputable def o282 (P : Params) : Obj := Obj.mk (Value.type "code") none (Data.fields #[Value.str (Str.ofString "is_any_depth") 488, Value.str (Str.ofString "is_any_depth") 489, Value.str (Str.ofString "/claim/cut.py") 490, Value.int 76 0, Value.int 1 0, Value.int 0 0, Value.int 0 0, Value.int 3 0, Value.ref 229, Value.bool Bool.true, Value.int 181 0, Value.ref 230, Value.none, Value.ref 231, Value.ref 232, Value.ref 233, Value.int 492 0, Value.int 76 0, Value.str (Str.ofString "/claim/cut.py") 493]) #[]
noncomputable def o283 (P : Params) : Obj := Obj.mk (Value.type "function") none (Data.func (FuncData.mk (Str.ofString "is_any_depth") (Str.ofString "is_any_depth") (pa (st 15)) (bo (st 15)) (sc (st 15)) 3 [] Value.none Value.none Value.none (Value.str (Str.ofString "markupmill.pattern_reader") 462) none (Value.ref 234) Value.none 0)) #[]
noncomputable def o284 (P : Params) : Obj := Obj.mk (Value.type "dict") none (Data.dict #[DictEntry.mk (PyData.keyHash P (Str.ofString "__name__")) (Value.str (Str.ofString "__name__") 165) (Value.str (Str.ofString "law_xm0657_01") 537), DictEntry.mk (PyData.keyHash P (Str.ofString "__doc__")) (Value.str (Str.ofString "__doc__") 166) Value.none, DictEntry.mk (PyData.keyHash P (Str.ofString "__package__")) (Value.str (Str.ofString "__package__") 167) Value.none, DictEntry.mk (PyData.keyHash P (Str.ofString "__loader__")) (Value.str (Str.ofString "__loader__") 168) (Value.builtin "__main__.__loader__#opaque"), DictEntry.mk (PyData.keyHash P (Str.ofString "__spec__")) (Value.str (Str.ofString "__spec__") 169) Value.none, DictEntry.mk (PyData.keyHash P (Str.ofString "__annotations__")) (Value.str (Str.ofString "__annotations__") 170) (Value.ref 6), DictEntry.mk (PyData.keyHash P (Str.ofString "__builtins__")) (Value.str (Str.ofString "__builtins__") 171) (Value.ref 4), DictEntry.mk (PyData.keyHash P (Str.ofString "__file__")) (Value.str (Str.ofString "__file__") 173) (Value.str (Str.ofString "/claim/cut.py") 172), DictEntry.mk (PyData.keyHash P (Str.ofString "__cached__")) (Value.str (Str.ofString "__cached__") 174) Value.none, DictEntry.mk (PyData.keyHash P (Str.ofString "_wall")) (Value.str (Str.ofString "_wall") 193) (Value.ref 21), DictEntry.mk (PyData.keyHash P (Str.ofString "Literal")) (Value.str (Str.ofString "Literal") 231) (Value.ref 45), DictEntry.mk (PyData.keyHash P (Str.ofString "Call")) (Value.str (Str.ofString "Call") 269) (Value.ref 73), DictEntry.mk (PyData.keyHash P (Str.ofString "Binary")) (Value.str (Str.ofString "Binary") 309) (Value.ref 101), DictEntry.mk (PyData.keyHash P (Str.ofString "Negated")) (Value.str (Str.ofString "Negated") 345) (Value.ref 129), DictEntry.mk (PyData.keyHash P (Str.ofString "Filter")) (Value.str (Str.ofString "Filter") 383) (Value.ref 157), DictEntry.mk (PyData.keyHash P (Str.ofString "Path")) (Value.str (Str.ofString "Path") 421) (Value.ref 185), DictEntry.mk (PyData.keyHash P (Str.ofString "Step")) (Value.str (Str.ofString "Step") 461) (Value.ref 213), DictEntry.mk (PyData.keyHash P (Str.ofString "PLAIN")) (Value.str (Str.ofString "PLAIN") 466) (Value.ref 218), DictEntry.mk (PyData.keyHash P (Str.ofString "OF_PREFIX")) (Value.str (Str.ofString "OF_PREFIX") 470) (Value.ref 219), DictEntry.mk (PyData.keyHash P (Str.ofString "OF_KIND")) (Value.str (Str.ofString "OF_KIND") 474) (Value.ref 220), DictEntry.mk (PyData.keyHash P (Str.ofString "OTHER")) (Value.str (Str.ofString "OTHER") 477) (Value.ref 221), DictEntry.mk (PyData.keyHash P (Str.ofString "alternatives")) (Value.str (Str.ofString "alternatives") 487) (Value.ref 228), DictEntry.mk (PyData.keyHash P (Str.ofString "is_any_depth")) (Value.str (Str.ofString "is_any_depth") 494) (Value.ref 235), DictEntry.mk (PyData.keyHash P (Str.ofString "priority_of")) (Value.str (Str.ofString "priority_of") 503) (Value.ref 242), DictEntry.mk (PyData.keyHash P (Str.ofString "Part")) (Value.str (Str.ofString "Part") 536) (Value.ref 259), DictEntry.mk (PyData.keyHash P (Str.ofString "_law_pool")) (Value.str (Str.ofString "_law_pool") 547) (Value.ref 270), DictEntry.mk (PyData.keyHash P (Str.ofString "_law_take")) (Value.str (Str.ofString "_law_take") 556) (Value.ref 277), DictEntry.mk (PyData.keyHash P (Str.ofString "_law_one")) (Value.str (Str.ofString "_law_one") 564) (Value.ref 284), DictEntry.mk (PyData.keyHash P (Str.ofString "_law_expression")) (Value.str (Str.ofString "_law_expression") 573) (Value.ref 291)] 29) #[]
noncomputable def o285 (P : Params) : Obj := Obj.mk Value.none none (Data.fields #[Value.int 1 0, Value.int 0 0, Value.ref 20, Value.int 5 0, Value.int 0 0, Value.ref 27, Value.int 12 0, Value.int 0 0, Value.ref 55, Value.int 20 0, Value.int 0 0, Value.ref 83, Value.int 29 0, Value.int 0 0, Value.ref 111, Value.int 36 0, Value.int 0 0, Value.ref 139, Value.int 44 0, Value.int 0 0, Value.ref 167, Value.int 52 0, Value.int 0 0, Value.ref 195, Value.int 66 0, Value.int 0 0, Value.ref 227, Value.int 76 0, Value.int 0 0, Value.ref 234, Value.int 78 0, Value.int 0 0, Value.ref 241, Value.int 86 0, Value.int 0 0, Value.ref 248, Value.int 92 0, Value.int 0 0, Value.ref 269, Value.int 96 0, Value.int 0 0, Value.ref 276, Value.int 103 0, Value.int 0 0, Value.ref 283, Value.int 105 0, Value.int 0 0, Value.ref 290]) #[]
noncomputable def o286 (P : Params) : Obj := Obj.mk (Value.type "tuple") none (Data.seq #[] 0) #[]
noncomputable def o287 (P : Params) : Obj := Obj.mk Value.none none (Data.fields #[]) #[]
noncomputable def o288 (P : Params) : Obj := Obj.mk (Value.type "tuple") none (Data.seq #[Value.str (Str.ofString "start") 498, Value.str (Str.ofString "parts") 499, Value.str (Str.ofString "test") 500] 0) #[]
noncomputable def o289 (P : Params) : Obj := Obj.mk (Value.type "tuple") none (Data.seq #[] 0) #[]
noncomputable def o290 (P : Params) : Obj := Obj.mk Value.none none (Data.func (FuncData.mk (Str.ofString "priority_of") (Str.ofString "priority_of") (pa (st 16)) (bo (st 16)) (sc (st 16)) 0 [] Value.none Value.none Value.none Value.none none Value.none Value.none 0)) #[]
noncomputable def o291 (P : Params) : Obj := Obj.mk (Value.type "code") none (Data.fields #[Value.str (Str.ofString "priority_of") 495, Value.str (Str.ofString "priority_of") 496, Value.str (Str.ofString "/claim/cut.py") 497, Value.int 78 0, Value.int 2 0, Value.int 0 0, Value.int 0 0, Value.int 3 0, Value.ref 236, Value.bool Bool.true, Value.int 181 0, Value.ref 237, Value.none, Value.ref 238, Value.ref 239, Value.ref 240, Value.int 501 0, Value.int 78 0, Value.str (Str.ofString "/claim/cut.py") 502]) #[]
noncomputable def o292 (P : Params) : Obj := Obj.mk (Value.type "function") none (Data.func (FuncData.mk (Str.ofString "priority_of") (Str.ofString "priority_of") (pa (st 16)) (bo (st 16)) (sc (st 16)) 3 [] Value.none Value.none Value.none (Value.str (Str.ofString "markupmill.pattern_reader") 462) none (Value.ref 241) Value.none 0)) #[]
noncomputable def o293 (P : Params) : Obj := Obj.mk (Value.type "tuple") none (Data.seq #[] 0) #[]
noncomputable def o294 (P : Params) : Obj := Obj.mk (Value.type "builtin_function_or_method") none (Data.fields #[Value.builtin "type.__prepare__", Value.type "type"]) #[]
noncomputable def o295 (P : Params) : Obj := Obj.mk (Value.type "dict") none (Data.dict #[DictEntry.mk (PyData.keyHash P (Str.ofString "__module__")) (Value.str (Str.ofString "__module__") 513) (Value.str (Str.ofString "markupmill.patterns") 504), DictEntry.mk (PyData.keyHash P (Str.ofString "__qualname__")) (Value.str (Str.ofString "__qualname__") 515) (Value.str (Str.ofString "Part") 514), DictEntry.mk (PyData.keyHash P (Str.ofString "__firstlineno__")) (Value.str (Str.ofString "__firstlineno__") 517) (Value.int 86 516), DictEntry.mk (PyData.keyHash P (Str.ofString "__init__")) (Value.str (Str.ofString "__init__") 526) (Value.ref 256), DictEntry.mk (PyData.keyHash P (Str.ofString "__static_attributes__")) (Value.str (Str.ofString "__static_attributes__") 529) (Value.ref 257)] 5) #[]
noncomputable def o296 (P : Params) : Obj := Obj.mk (Value.type "tuple") none (Data.seq #[] 0) #[]
noncomputable def o297 (P : Params) : Obj := Obj.mk Value.none none (Data.fields #[Value.int 88 0, Value.int 4 0, Value.ref 255]) #[]
noncomputable def o298 (P : Params) : Obj := Obj.mk (Value.type "code") none (Data.fields #[Value.str (Str.ofString "Part") 508, Value.str (Str.ofString "Part") 509, Value.str (Str.ofString "/claim/cut.py") 510, Value.int 86 0, Value.int 0 0, Value.int 0 0, Value.int 0 0, Value.int 0 0, Value.ref 246, Value.bool Bool.false, Value.int 181 0, Value.ref 247, Value.none, Value.none, Value.none, Value.none, Value.int 511 0, Value.int 86 0, Value.str (Str.ofString "/claim/cut.py") 512]) #[]
noncomputable def o299 (P : Params) : Obj := Obj.mk (Value.type "frame") none Data.plain #[some (Value.ref 248), some (Value.ref 3), some (Value.ref 245), none, some (Value.str (Str.ofString "markupmill.patterns") 504), none, some (Value.ref 0)]
noncomputable def o300 (P : Params) : Obj := Obj.mk (Value.type "tuple") none (Data.seq #[] 0) #[]
noncomputable def o301 (P : Params) : Obj := Obj.mk Value.none none (Data.fields #[]) #[]
noncomputable def o302 (P : Params) : Obj := Obj.mk (Value.type "tuple") none (Data.seq #[Value.str (Str.ofString "self") 521, Value.str (Str.ofString "step") 522, Value.str (Str.ofString "is_deep") 523] 0) #[]
noncomputable def o303 (P : Params) : Obj := Obj.mk (Value.type "tuple") none (Data.seq #[] 0) #[]
noncomputable def o304 (P : Params) : Obj := Obj.mk Value.none none (Data.func (FuncData.mk (Str.ofString "__init__") (Str.ofString "Part.__init__") (pa (inn 18 0)) (bo (inn 18 0)) (sc (inn 18 0)) 0 [] Value.none Value.none Value.none Value.none none Value.none Value.none 0)) #[]
noncomputable def o305 (P : Params) : Obj := Obj.mk (Value.type "code") none (Data.fields #[Value.str (Str.ofString "__init__") 518, Value.str (Str.ofString "Part.__init__") 519, Value.str (Str.ofString "/claim/cut.py") 520, Value.int 88 0, Value.int 3 0, Value.int 0 0, Value.int 0 0, Value.int 3 0, Value.ref 250, Value.bool Bool.true, Value.int 181 0, Value.ref 251, Value.none, Value.ref 252, Value.ref 253, Value.ref 254, Value.int 524 0, Value.int 88 0, Value.str (Str.ofString "/claim/cut.py") 525]) #[]
noncomputable def o306 (P : Params) : Obj := Obj.mk (Value.type "function") none (Data.func (FuncData.mk (Str.ofString "__init__") (Str.ofString "Part.__init__") (pa (inn 18 0)) (bo (inn 18 0)) (sc (inn 18 0)) 3 [] Value.none Value.none Value.none (Value.str (Str.ofString "markupmill.patterns") 504) none (Value.ref 255) Value.none 0)) #[]
noncomputable def o307 (P : Params) : Obj := Obj.mk (Value.type "tuple") none (Data.seq #[Value.str (Str.ofString "is_deep") 527, Value.str (Str.ofString "step") 528] 0) #[]
noncomputable def o308 (P : Params) : Obj := Obj.mk (Value.type "dict") none (Data.dict #[DictEntry.mk (PyData.keyHash P (Str.ofString "__module__")) (Value.str (Str.ofString "__module__") 513) (Value.str (Str.ofString "markupmill.patterns") 504), DictEntry.mk (PyData.keyHash P (Str.ofString "__firstlineno__")) (Value.str (Str.ofString "__firstlineno__") 517) (Value.int 86 516), DictEntry.mk (PyData.keyHash P (Str.ofString "__init__")) (Value.str (Str.ofString "__init__") 526) (Value.ref 256), DictEntry.mk (PyData.keyHash P (Str.ofString "__static_attributes__")) (Value.str (Str.ofString "__static_attributes__") 529) (Value.ref 257), DictEntry.mk (PyData.keyHash P (Str.ofString "__dict__")) (Value.str (Str.ofString "__dict__") 531) (Value.ref 260), DictEntry.mk (PyData.keyHash P (Str.ofString "__weakref__")) (Value.str (Str.ofString "__weakref__") 533) (Value.ref 261), DictEntry.mk (PyData.keyHash P (Str.ofString "__doc__")) (Value.str (Str.ofString "__doc__") 534) Value.none] 4) #[]
noncomputable def o309 (P : Params) : Obj := Obj.mk (Value.type "type") none (Data.cls (ClassData.mk (Str.ofString "Part") [Value.type "object"] [Value.ref 259, Value.type "object"] 258 (Str.ofString "Part") Bool.true [] [] Bool.false none Bool.false)) #[none, none, some (Value.str (Str.ofString "Part") 506), some (Value.str (Str.ofString "Part") 514), some (Value.builtin "object.__new__"), some (Value.bool Bool.true)]
noncomputable def o310 (P : Params) : Obj := Obj.mk (Value.type "getset_descriptor") none (Data.fields #[Value.str (Str.ofString "__dict__") 530, Value.ref 259, Value.builtin "function.__dict__", Value.builtin "function.__dict__#set"]) #[]
noncomputable def o311 (P : Params) : Obj := Obj.mk (Value.type "getset_descriptor") none (Data.fields #[Value.str (Str.ofString "__weakref__") 532, Value.ref 259, Value.builtin "ExceptionGroup.__weakref__", Value.none]) #[]
noncomputable def o312 (P : Params) : Obj := Obj.mk (Value.type "super") none (Data.fields #[Value.ref 259, Value.ref 259, Value.ref 259]) #[]
noncomputable def o313 (P : Params) : Obj := Obj.mk (Value.type "builtin_function_or_method") none (Data.fields #[Value.builtin "object.__init_subclass__", Value.ref 259]) #[]
noncomputable def o314 (P : Params) : Obj := Obj.mk (Value.type "tuple") none (Data.seq #[] 0) #[]
noncomputable def o315 (P : Params) : Obj := Obj.mk Value.none none (Data.fields #[]) #[]
noncomputable def o316 (P : Params) : Obj := Obj.mk (Value.type "tuple") none (Data.seq #[Value.str (Str.ofString "script") 542, Value.str (Str.ofString "cell") 543, Value.str (Str.ofString "great") 544] 0) #[]
noncomputable def o317 (P : Params) : Obj := Obj.mk (Value.type "tuple") none (Data.seq #[] 0) #[]
noncomputable def o318 (P : Params) : Obj := Obj.mk Value.none none (Data.func (FuncData.mk (Str.ofString "_law_pool") (Str.ofString "_law_pool") (pa (st 20)) (bo (st 20)) (sc (st 20)) 0 [] Value.none Value.none Value.none Value.none none Value.none Value.none 0)) #[]
noncomputable def o319 (P : Params) : Obj := Obj.mk (Value.type "code") none (Data.fields #[Value.str (Str.ofString "_law_pool") 539, Value.str (Str.ofString "_law_pool") 540, Value.str (Str.ofString "/claim/cut.py") 541, Value.int 92 0, Value.int 1 0, Value.int 0 0, Value.int 0 0, Value.int 3 0, Value.ref 264, Value.bool Bool.true, Value.int 181 0, Value.ref 265, Value.none, Value.ref 266, Value.ref 267, Value.ref 268, Value.int 545 0, Value.int 92 0, Value.str (Str.ofString "/claim/cut.py") 546]) #[]
noncomputable def o320 (P : Params) : Obj := Obj.mk (Value.type "function") none (Data.func (FuncData.mk (Str.ofString "_law_pool") (Str.ofString "_law_pool") (pa (st 20)) (bo (st 20)) (sc (st 20)) 3 [] Value.none Value.none Value.none (Value.str (Str.ofString "law_xm0657_01") 537) none (Value.ref 269) Value.none 0)) #[]
noncomputable def o321 (P : Params) : Obj := Obj.mk (Value.type "tuple") none (Data.seq #[] 0) #[]
noncomputable def o322 (P : Params) : Obj := Obj.mk Value.none none (Data.fields #[]) #[]
noncomputable def o323 (P : Params) : Obj := Obj.mk (Value.type "tuple") none (Data.seq #[Value.str (Str.ofString "source") 551, Value.str (Str.ofString "top") 552, Value.str (Str.ofString "digit") 553] 0) #[]
noncomputable def o324 (P : Params) : Obj := Obj.mk (Value.type "tuple") none (Data.seq #[] 0) #[]
noncomputable def o325 (P : Params) : Obj := Obj.mk Value.none none (Data.func (FuncData.mk (Str.ofString "_law_take") (Str.ofString "_law_take") (pa (st 21)) (bo (st 21)) (sc (st 21)) 0 [] Value.none Value.none Value.none Value.none none Value.none Value.none 0)) #[]
noncomputable def o326 (P : Params) : Obj := Obj.mk (Value.type "code") none (Data.fields #[Value.str (Str.ofString "_law_take") 548, Value.str (Str.ofString "_law_take") 549, Value.str (Str.ofString "/claim/cut.py") 550, Value.int 96 0, Value.int 2 0, Value.int 0 0, Value.int 0 0, Value.int 3 0, Value.ref 271, Value.bool Bool.true, Value.int 181 0, Value.ref 272, Value.none, Value.ref 273, Value.ref 274, Value.ref 275, Value.int 554 0, Value.int 96 0, Value.str (Str.ofString "/claim/cut.py") 555]) #[]
noncomputable def o327 (P : Params) : Obj := Obj.mk (Value.type "function") none (Data.func (FuncData.mk (Str.ofString "_law_take") (Str.ofString "_law_take") (pa (st 21)) (bo (st 21)) (sc (st 21)) 3 [] Value.none Value.none Value.none (Value.str (Str.ofString "law_xm0657_01") 537) none (Value.ref 276) Value.none 0)) #[]
noncomputable def o328 (P : Params) : Obj := Obj.mk (Value.type "tuple") none (Data.seq #[] 0) #[]
noncomputable def o329 (P : Params) : Obj := Obj.mk Value.none none (Data.fields #[]) #[]
noncomputable def o330 (P : Params) : Obj := Obj.mk (Value.type "tuple") none (Data.seq #[Value.str (Str.ofString "source") 560, Value.str (Str.ofString "things") 561] 0) #[]
noncomputable def o331 (P : Params) : Obj := Obj.mk (Value.type "tuple") none (Data.seq #[] 0) #[]
noncomputable def o332 (P : Params) : Obj := Obj.mk Value.none none (Data.func (FuncData.mk (Str.ofString "_law_one") (Str.ofString "_law_one") (pa (st 22)) (bo (st 22)) (sc (st 22)) 0 [] Value.none Value.none Value.none Value.none none Value.none Value.none 0)) #[]
noncomputable def o333 (P : Params) : Obj := Obj.mk (Value.type "code") none (Data.fields #[Value.str (Str.ofString "_law_one") 557, Value.str (Str.ofString "_law_one") 558, Value.str (Str.ofString "/claim/cut.py") 559, Value.int 103 0, Value.int 2 0, Value.int 0 0, Value.int 0 0, Value.int 3 0, Value.ref 278, Value.bool Bool.true, Value.int 181 0, Value.ref 279, Value.none, Value.ref 280, Value.ref 281, Value.ref 282, Value.int 562 0, Value.int 103 0, Value.str (Str.ofString "/claim/cut.py") 563]) #[]
noncomputable def o334 (P : Params) : Obj := Obj.mk (Value.type "function") none (Data.func (FuncData.mk (Str.ofString "_law_one") (Str.ofString "_law_one") (pa (st 22)) (bo (st 22)) (sc (st 22)) 3 [] Value.none Value.none Value.none (Value.str (Str.ofString "law_xm0657_01") 537) none (Value.ref 283) Value.none 0)) #[]
noncomputable def o335 (P : Params) : Obj := Obj.mk (Value.type "tuple") none (Data.seq #[] 0) #[]
noncomputable def o336 (P : Params) : Obj := Obj.mk Value.none none (Data.fields #[]) #[]
noncomputable def o337 (P : Params) : Obj := Obj.mk (Value.type "tuple") none (Data.seq #[Value.str (Str.ofString "source") 568, Value.str (Str.ofString "way") 569, Value.str (Str.ofString "inner") 570] 0) #[]
noncomputable def o338 (P : Params) : Obj := Obj.mk (Value.type "tuple") none (Data.seq #[] 0) #[]
noncomputable def o339 (P : Params) : Obj := Obj.mk Value.none none (Data.func (FuncData.mk (Str.ofString "_law_expression") (Str.ofString "_law_expression") (pa (st 23)) (bo (st 23)) (sc (st 23)) 0 [] Value.none Value.none Value.none Value.none none Value.none Value.none 0)) #[]
noncomputable def o340 (P : Params) : Obj := Obj.mk (Value.type "code") none (Data.fields #[Value.str (Str.ofString "_law_expression") 565, Value.str (Str.ofString "_law_expression") 566, Value.str (Str.ofString "/claim/cut.py") 567, Value.int 105 0, Value.int 1 0, Value.int 0 0, Value.int 0 0, Value.int 3 0, Value.ref 285, Value.bool Bool.true, Value.int 181 0, Value.ref 286, Value.none, Value.ref 287, Value.ref 288, Value.ref 289, Value.int 571 0, Value.int 105 0, Value.str (Str.ofString "/claim/cut.py") 572]) #[]
noncomputable def o341 (P : Params) : Obj := Obj.mk (Value.type "function") none (Data.func (FuncData.mk (Str.ofString "_law_expression") (Str.ofString "_law_expression") (pa (st 23)) (bo (st 23)) (sc (st 23)) 3 [] Value.none Value.none Value.none (Value.str (Str.ofString "law_xm0657_01") 537) none (Value.ref 290) Value.none 0)) #[]
noncomputable def o342 (P : Params) : Obj := Obj.mk (Value.type "dict") none (Data.dict #[DictEntry.mk (PyData.keyHash P (Str.ofString "__name__")) (Value.str (Str.ofString "__name__") 165) (Value.str (Str.ofString "law_xm0657_01") 537), DictEntry.mk (PyData.keyHash P (Str.ofString "__doc__")) (Value.str (Str.ofString "__doc__") 166) Value.none, DictEntry.mk (PyData.keyHash P (Str.ofString "__package__")) (Value.str (Str.ofString "__package__") 167) Value.none, DictEntry.mk (PyData.keyHash P (Str.ofString "__loader__")) (Value.str (Str.ofString "__loader__") 168) (Value.builtin "__main__.__loader__#opaque"), DictEntry.mk (PyData.keyHash P (Str.ofString "__spec__")) (Value.str (Str.ofString "__spec__") 169) Value.none, DictEntry.mk (PyData.keyHash P (Str.ofString "__annotations__")) (Value.str (Str.ofString "__annotations__") 170) (Value.ref 6), DictEntry.mk (PyData.keyHash P (Str.ofString "__builtins__")) (Value.str (Str.ofString "__builtins__") 171) (Value.ref 4), DictEntry.mk (PyData.keyHash P (Str.ofString "__file__")) (Value.str (Str.ofString "__file__") 173) (Value.str (Str.ofString "/claim/cut.py") 172), DictEntry.mk (PyData.keyHash P (Str.ofString "__cached__")) (Value.str (Str.ofString "__cached__") 174) Value.none, DictEntry.mk (PyData.keyHash P (Str.ofString "_wall")) (Value.str (Str.ofString "_wall") 193) (Value.ref 21), DictEntry.mk (PyData.keyHash P (Str.ofString "Literal")) (Value.str (Str.ofString "Literal") 231) (Value.ref 45), DictEntry.mk (PyData.keyHash P (Str.ofString "Call")) (Value.str (Str.ofString "Call") 269) (Value.ref 73), DictEntry.mk (PyData.keyHash P (Str.ofString "Binary")) (Value.str (Str.ofString "Binary") 309) (Value.ref 101), DictEntry.mk (PyData.keyHash P (Str.ofString "Negated")) (Value.str (Str.ofString "Negated") 345) (Value.ref 129), DictEntry.mk (PyData.keyHash P (Str.ofString "Filter")) (Value.str (Str.ofString "Filter") 383) (Value.ref 157), DictEntry.mk (PyData.keyHash P (Str.ofString "Path")) (Value.str (Str.ofString "Path") 421) (Value.ref 185), DictEntry.mk (PyData.keyHash P (Str.ofString "Step")) (Value.str (Str.ofString "Step") 461) (Value.ref 213), DictEntry.mk (PyData.keyHash P (Str.ofString "PLAIN")) (Value.str (Str.ofString "PLAIN") 466) (Value.ref 218), DictEntry.mk (PyData.keyHash P (Str.ofString "OF_PREFIX")) (Value.str (Str.ofString "OF_PREFIX") 470) (Value.ref 219), DictEntry.mk (PyData.keyHash P (Str.ofString "OF_KIND")) (Value.str (Str.ofString "OF_KIND") 474) (Value.ref 220), DictEntry.mk (PyData.keyHash P (Str.ofString "OTHER")) (Value.str (Str.ofString "OTHER") 477) (Value.ref 221), DictEntry.mk (PyData.keyHash P (Str.ofString "alternatives")) (Value.str (Str.ofString "alternatives") 487) (Value.ref 228), DictEntry.mk (PyData.keyHash P (Str.ofString "is_any_depth")) (Value.str (Str.ofString "is_any_depth") 494) (Value.ref 235), DictEntry.mk (PyData.keyHash P (Str.ofString "priority_of")) (Value.str (Str.ofString "priority_of") 503) (Value.ref 242), DictEntry.mk (PyData.keyHash P (Str.ofString "Part")) (Value.str (Str.ofString "Part") 536) (Value.ref 259), DictEntry.mk (PyData.keyHash P (Str.ofString "_law_pool")) (Value.str (Str.ofString "_law_pool") 547) (Value.ref 270), DictEntry.mk (PyData.keyHash P (Str.ofString "_law_take")) (Value.str (Str.ofString "_law_take") 556) (Value.ref 277), DictEntry.mk (PyData.keyHash P (Str.ofString "_law_one")) (Value.str (Str.ofString "_law_one") 564) (Value.ref 284), DictEntry.mk (PyData.keyHash P (Str.ofString "_law_expression")) (Value.str (Str.ofString "_law_expression") 573) (Value.ref 291), DictEntry.mk (PyData.keyHash P (Str.ofString "_law_joined")) (Value.str (Str.ofString "_law_joined") 583) (Value.ref 298), DictEntry.mk (PyData.keyHash P (Str.ofString "_law_are_same")) (Value.str (Str.ofString "_law_are_same") 589) (Value.ref 303), DictEntry.mk (PyData.keyHash P (Str.ofString "_law_step")) (Value.str (Str.ofString "_law_step") 600) (Value.ref 310), DictEntry.mk (PyData.keyHash P (Str.ofString "_law_tests")) (Value.str (Str.ofString "_law_tests") 606) (Value.ref 317), DictEntry.mk (PyData.keyHash P (Str.ofString "_law_priority_right")) (Value.str (Str.ofString "_law_priority_right") 621) (Value.ref 324), DictEntry.mk (PyData.keyHash P (Str.ofString "law")) (Value.str (Str.ofString "law") 627) (Value.ref 329)] 35) #[]
noncomputable def o343 (P : Params) : Obj := Obj.mk Value.none none (Data.fields #[Value.int 1 0, Value.int 0 0, Value.ref 20, Value.int 5 0, Value.int 0 0, Value.ref 27, Value.int 12 0, Value.int 0 0, Value.ref 55, Value.int 20 0, Value.int 0 0, Value.ref 83, Value.int 29 0, Value.int 0 0, Value.ref 111, Value.int 36 0, Value.int 0 0, Value.ref 139, Value.int 44 0, Value.int 0 0, Value.ref 167, Value.int 52 0, Value.int 0 0, Value.ref 195, Value.int 66 0, Value.int 0 0, Value.ref 227, Value.int 76 0, Value.int 0 0, Value.ref 234, Value.int 78 0, Value.int 0 0, Value.ref 241, Value.int 86 0, Value.int 0 0, Value.ref 248, Value.int 92 0, Value.int 0 0, Value.ref 269, Value.int 96 0, Value.int 0 0, Value.ref 276, Value.int 103 0, Value.int 0 0, Value.ref 283, Value.int 105 0, Value.int 0 0, Value.ref 290, Value.int 112 0, Value.int 0 0, Value.ref 297, Value.int 118 0, Value.int 0 0, Value.ref 302, Value.int 120 0, Value.int 0 0, Value.ref 309, Value.int 126 0, Value.int 0 0, Value.ref 316, Value.int 128 0, Value.int 0 0, Value.ref 323, Value.int 137 0, Value.int 0 0, Value.ref 328]) #[]
noncomputable def o344 (P : Params) : Obj := Obj.mk (Value.type "tuple") none (Data.seq #[] 0) #[]
noncomputable def o345 (P : Params) : Obj := Obj.mk Value.none none (Data.fields #[]) #[]
noncomputable def o346 (P : Params) : Obj := Obj.mk (Value.type "tuple") none (Data.seq #[Value.str (Str.ofString "source") 577, Value.str (Str.ofString "some") 578, Value.str (Str.ofString "left") 579, Value.str (Str.ofString "at") 580] 0) #[]
noncomputable def o347 (P : Params) : Obj := Obj.mk (Value.type "tuple") none (Data.seq #[] 0) #[]
noncomputable def o348 (P : Params) : Obj := Obj.mk Value.none none (Data.func (FuncData.mk (Str.ofString "_law_joined") (Str.ofString "_law_joined") (pa (st 24)) (bo (st 24)) (sc (st 24)) 0 [] Value.none Value.none Value.none Value.none none Value.none Value.none 0)) #[]
noncomputable def o349 (P : Params) : Obj := Obj.mk (Value.type "code") none (Data.fields #[Value.str (Str.ofString "_law_joined") 574, Value.str (Str.ofString "_law_joined") 575, Value.str (Str.ofString "/claim/cut.py") 576, Value.int 112 0, Value.int 2 0, Value.int 0 0, Value.int 0 0, Value.int 3 0, Value.ref 292, Value.bool Bool.true, Value.int 181 0, Value.ref 293, Value.none, Value.ref 294, Value.ref 295, Value.ref 296, Value.int 581 0, Value.int 112 0, Value.str (Str.ofString "/claim/cut.py") 582]) #[]
noncomputable def o350 (P : Params) : Obj := Obj.mk (Value.type "function") none (Data.func (FuncData.mk (Str.ofString "_law_joined") (Str.ofString "_law_joined") (pa (st 24)) (bo (st 24)) (sc (st 24)) 3 [] Value.none Value.none Value.none (Value.str (Str.ofString "law_xm0657_01") 537) none (Value.ref 297) Value.none 0)) #[]
noncomputable def o351 (P : Params) : Obj := Obj.mk (Value.type "tuple") none (Data.seq #[] 0) #[]
noncomputable def o352 (P : Params) : Obj := Obj.mk Value.none none (Data.fields #[]) #[]
noncomputable def o353 (P : Params) : Obj := Obj.mk Value.none none (Data.func (FuncData.mk (Str.ofString "_law_are_same") (Str.ofString "_law_are_same") (pa (st 25)) (bo (st 25)) (sc (st 25)) 0 [] Value.none Value.none Value.none Value.none none Value.none Value.none 0)) #[]
noncomputable def o354 (P : Params) : Obj := Obj.mk (Value.type "code") none (Data.fields #[Value.str (Str.ofString "_law_are_same") 584, Value.str (Str.ofString "_law_are_same") 585, Value.str (Str.ofString "/claim/cut.py") 586, Value.int 118 0, Value.int 2 0, Value.int 0 0, Value.int 0 0, Value.int 3 0, Value.ref 299, Value.bool Bool.true, Value.int 181 0, Value.ref 300, Value.none, Value.none, Value.none, Value.ref 301, Value.int 587 0, Value.int 118 0, Value.str (Str.ofString "/claim/cut.py") 588]) #[]
noncomputable def o355 (P : Params) : Obj := Obj.mk (Value.type "function") none (Data.func (FuncData.mk (Str.ofString "_law_are_same") (Str.ofString "_law_are_same") (pa (st 25)) (bo (st 25)) (sc (st 25)) 3 [] Value.none Value.none Value.none (Value.str (Str.ofString "law_xm0657_01") 537) none (Value.ref 302) Value.none 0)) #[]
noncomputable def o356 (P : Params) : Obj := Obj.mk (Value.type "tuple") none (Data.seq #[] 0) #[]
noncomputable def o357 (P : Params) : Obj := Obj.mk Value.none none (Data.fields #[]) #[]
noncomputable def o358 (P : Params) : Obj := Obj.mk (Value.type "tuple") none (Data.seq #[Value.str (Str.ofString "source") 593, Value.str (Str.ofString "axis") 594, Value.str (Str.ofString "test") 595, Value.str (Str.ofString "many") 596, Value.str (Str.ofString "is_so") 597] 0) #[]
noncomputable def o359 (P : Params) : Obj := Obj.mk (Value.type "tuple") none (Data.seq #[] 0) #[]
noncomputable def o360 (P : Params) : Obj := Obj.mk Value.none none (Data.func (FuncData.mk (Str.ofString "_law_step") (Str.ofString "_law_step") (pa (st 26)) (bo (st 26)) (sc (st 26)) 0 [] Value.none Value.none Value.none Value.none none Value.none Value.none 0)) #[]
noncomputable def o361 (P : Params) : Obj := Obj.mk (Value.type "code") none (Data.fields #[Value.str (Str.ofString "_law_step") 590, Value.str (Str.ofString "_law_step") 591, Value.str (Str.ofString "/claim/cut.py") 592, Value.int 120 0, Value.int 1 0, Value.int 0 0, Value.int 0 0, Value.int 3 0, Value.ref 304, Value.bool Bool.true, Value.int 181 0, Value.ref 305, Value.none, Value.ref 306, Value.ref 307, Value.ref 308, Value.int 598 0, Value.int 120 0, Value.str (Str.ofString "/claim/cut.py") 599]) #[]
noncomputable def o362 (P : Params) : Obj := Obj.mk (Value.type "function") none (Data.func (FuncData.mk (Str.ofString "_law_step") (Str.ofString "_law_step") (pa (st 26)) (bo (st 26)) (sc (st 26)) 3 [] Value.none Value.none Value.none (Value.str (Str.ofString "law_xm0657_01") 537) none (Value.ref 309) Value.none 0)) #[]
noncomputable def o363 (P : Params) : Obj := Obj.mk (Value.type "tuple") none (Data.seq #[] 0) #[]
noncomputable def o364 (P : Params) : Obj := Obj.mk Value.none none (Data.fields #[]) #[]
noncomputable def o365 (P : Params) : Obj := Obj.mk (Value.type "tuple") none (Data.seq #[] 0) #[]
noncomputable def o366 (P : Params) : Obj := Obj.mk (Value.type "tuple") none (Data.seq #[] 0) #[]
noncomputable def o367 (P : Params) : Obj := Obj.mk Value.none none (Data.func (FuncData.mk (Str.ofString "_law_tests") (Str.ofString "_law_tests") (pa (st 27)) (bo (st 27)) (sc (st 27)) 0 [] Value.none Value.none Value.none Value.none none Value.none Value.none 0)) #[]
noncomputable def o368 (P : Params) : Obj := Obj.mk (Value.type "code") none (Data.fields #[Value.str (Str.ofString "_law_tests") 601, Value.str (Str.ofString "_law_tests") 602, Value.str (Str.ofString "/claim/cut.py") 603, Value.int 126 0, Value.int 0 0, Value.int 0 0, Value.int 0 0, Value.int 3 0, Value.ref 311, Value.bool Bool.true, Value.int 181 0, Value.ref 312, Value.none, Value.ref 313, Value.ref 314, Value.ref 315, Value.int 604 0, Value.int 126 0, Value.str (Str.ofString "/claim/cut.py") 605]) #[]
noncomputable def o369 (P : Params) : Obj := Obj.mk (Value.type "function") none (Data.func (FuncData.mk (Str.ofString "_law_tests") (Str.ofString "_law_tests") (pa (st 27)) (bo (st 27)) (sc (st 27)) 3 [] Value.none Value.none Value.none (Value.str (Str.ofString "law_xm0657_01") 537) none (Value.ref 316) Value.none 0)) #[]
noncomputable def o370 (P : Params) : Obj := Obj.mk (Value.type "tuple") none (Data.seq #[] 0) #[]
noncomputable def o371 (P : Params) : Obj := Obj.mk Value.none none (Data.fields #[]) #[]
noncomputable def o372 (P : Params) : Obj := Obj.mk (Value.type "tuple") none (Data.seq #[Value.str (Str.ofString "source") 610, Value.str (Str.ofString "start") 611, Value.str (Str.ofString "parts") 612, Value.str (Str.ofString "worth") 613, Value.str (Str.ofString "turn") 614, Value.str (Str.ofString "test") 615, Value.str (Str.ofString "plain") 616, Value.str (Str.ofString "many") 617, Value.str (Str.ofString "is_deep") 618] 0) #[]
noncomputable def o373 (P : Params) : Obj := Obj.mk (Value.type "tuple") none (Data.seq #[] 0) #[]
noncomputable def o374 (P : Params) : Obj := Obj.mk Value.none none (Data.func (FuncData.mk (Str.ofString "_law_priority_right") (Str.ofString "_law_priority_right") (pa (st 28)) (bo (st 28)) (sc (st 28)) 0 [] Value.none Value.none Value.none Value.none none Value.none Value.none 0)) #[]
noncomputable def o375 (P : Params) : Obj := Obj.mk (Value.type "code") none (Data.fields #[Value.str (Str.ofString "_law_priority_right") 607, Value.str (Str.ofString "_law_priority_right") 608, Value.str (Str.ofString "/claim/cut.py") 609, Value.int 128 0, Value.int 1 0, Value.int 0 0, Value.int 0 0, Value.int 3 0, Value.ref 318, Value.bool Bool.true, Value.int 181 0, Value.ref 319, Value.none, Value.ref 320, Value.ref 321, Value.ref 322, Value.int 619 0, Value.int 128 0, Value.str (Str.ofString "/claim/cut.py") 620]) #[]
noncomputable def o376 (P : Params) : Obj := Obj.mk (Value.type "function") none (Data.func (FuncData.mk (Str.ofString "_law_priority_right") (Str.ofString "_law_priority_right") (pa (st 28)) (bo (st 28)) (sc (st 28)) 3 [] Value.none Value.none Value.none (Value.str (Str.ofString "law_xm0657_01") 537) none (Value.ref 323) Value.none 0)) #[]
noncomputable def o377 (P : Params) : Obj := Obj.mk (Value.type "tuple") none (Data.seq #[] 0) #[]
noncomputable def o378 (P : Params) : Obj := Obj.mk Value.none none (Data.fields #[]) #[]
noncomputable def o379 (P : Params) : Obj := Obj.mk Value.none none (Data.func (FuncData.mk (Str.ofString "law") (Str.ofString "law") (pa (st 29)) (bo (st 29)) (sc (st 29)) 0 [] Value.none Value.none Value.none Value.none none Value.none Value.none 0)) #[]
noncomputable def o380 (P : Params) : Obj := Obj.mk (Value.type "code") none (Data.fields #[Value.str (Str.ofString "law") 622, Value.str (Str.ofString "law") 623, Value.str (Str.ofString "/claim/cut.py") 624, Value.int 137 0, Value.int 1 0, Value.int 0 0, Value.int 0 0, Value.int 3 0, Value.ref 325, Value.bool Bool.true, Value.int 181 0, Value.ref 326, Value.none, Value.none, Value.none, Value.ref 327, Value.int 625 0, Value.int 137 0, Value.str (Str.ofString "/claim/cut.py") 626]) #[]
noncomputable def o381 (P : Params) : Obj := Obj.mk (Value.type "function") none (Data.func (FuncData.mk (Str.ofString "law") (Str.ofString "law") (pa (st 29)) (bo (st 29)) (sc (st 29)) 3 [] Value.none Value.none Value.none (Value.str (Str.ofString "law_xm0657_01") 537) none (Value.ref 328) Value.none 0)) #[]
noncomputable def t47 (P : Params) : BT := BT.node (boot_o_0 P) (BT.node (boot_o_1 P) (BT.node (boot_o_3 P) (BT.node (boot_o_7 P) BT.nil BT.nil) (BT.node (o43 P) BT.nil BT.nil)) (BT.node (boot_o_5 P) (BT.node (boot_o_9 P) BT.nil BT.nil) (BT.node (o45 P) BT.nil BT.nil))) (BT.node (boot_o_2 P) (BT.node (boot_o_4 P) (BT.node (boot_o_8 P) BT.nil BT.nil) (BT.node (o44 P) BT.nil BT.nil)) (BT.node (boot_o_6 P) (BT.node (boot_o_10 P) BT.nil BT.nil) (BT.node (o46 P) BT.nil BT.nil)))
noncomputable def t85 (P : Params) : BT := BT.node (boot_o_0 P) (BT.node (boot_o_1 P) (BT.node (o49 P) (BT.node (boot_o_7 P) (BT.node (o51 P) (BT.node (o67 P) BT.nil BT.nil) (BT.node (o83 P) BT.nil BT.nil)) (BT.node (o59 P) (BT.node (o75 P) BT.nil BT.nil) BT.nil)) (BT.node (o43 P) (BT.node (o55 P) (BT.node (o71 P) BT.nil BT.nil) BT.nil) (BT.node (o63 P) (BT.node (o79 P) BT.nil BT.nil) BT.nil))) (BT.node (boot_o_5 P) (BT.node (boot_o_9 P) (BT.node (o53 P) (BT.node (o69 P) BT.nil BT.nil) (BT.node (o85 P) BT.nil BT.nil)) (BT.node (o61 P) (BT.node (o77 P) BT.nil BT.nil) BT.nil)) (BT.node (o45 P) (BT.node (o57 P) (BT.node (o73 P) BT.nil BT.nil) BT.nil) (BT.node (o65 P) (BT.node (o81 P) BT.nil BT.nil) BT.nil)))) (BT.node (boot_o_2 P) (BT.node (boot_o_4 P) (BT.node (boot_o_8 P) (BT.node (o52 P) (BT.node (o68 P) BT.nil BT.nil) (BT.node (o84 P) BT.nil BT.nil)) (BT.node (o60 P) (BT.node (o76 P) BT.nil BT.nil) BT.nil)) (BT.node (o50 P) (BT.node (o56 P) (BT.node (o72 P) BT.nil BT.nil) BT.nil) (BT.node (o64 P) (BT.node (o80 P) BT.nil BT.nil) BT.nil))) (BT.node (boot_o_6 P) (BT.node (boot_o_10 P) (BT.node (o54 P) (BT.node (o70 P) BT.nil BT.nil) BT.nil) (BT.node (o62 P) (BT.node (o78 P) BT.nil BT.nil) BT.nil)) (BT.node (o46 P) (BT.node (o58 P) (BT.node (o74 P) BT.nil BT.nil) BT.nil) (BT.node (o66 P) (BT.node (o82 P) BT.nil BT.nil) BT.nil))))
noncomputable def t115 (P : Params) : BT := BT.node (boot_o_0 P) (BT.node (boot_o_1 P) (BT.node (o86 P) (BT.node (boot_o_7 P) (BT.node (o51 P) (BT.node (o67 P) (BT.node (o101 P) BT.nil BT.nil) BT.nil) (BT.node (o83 P) BT.nil BT.nil)) (BT.node (o59 P) (BT.node (o75 P) (BT.node (o109 P) BT.nil BT.nil) BT.nil) (BT.node (o93 P) BT.nil BT.nil))) (BT.node (o43 P) (BT.node (o55 P) (BT.node (o71 P) (BT.node (o105 P) BT.nil BT.nil) BT.nil) (BT.node (o89 P) BT.nil BT.nil)) (BT.node (o63 P) (BT.node (o79 P) (BT.node (o113 P) BT.nil BT.nil) BT.nil) (BT.node (o97 P) BT.nil BT.nil)))) (BT.node (boot_o_5 P) (BT.node (boot_o_9 P) (BT.node (o53 P) (BT.node (o69 P) (BT.node (o103 P) BT.nil BT.nil) BT.nil) (BT.node (o85 P) BT.nil BT.nil)) (BT.node (o61 P) (BT.node (o77 P) (BT.node (o111 P) BT.nil BT.nil) BT.nil) (BT.node (o95 P) BT.nil BT.nil))) (BT.node (o45 P) (BT.node (o57 P) (BT.node (o73 P) (BT.node (o107 P) BT.nil BT.nil) BT.nil) (BT.node (o91 P) BT.nil BT.nil)) (BT.node (o65 P) (BT.node (o81 P) (BT.node (o115 P) BT.nil BT.nil) BT.nil) (BT.node (o99 P) BT.nil BT.nil))))) (BT.node (boot_o_2 P) (BT.node (boot_o_4 P) (BT.node (boot_o_8 P) (BT.node (o52 P) (BT.node (o68 P) (BT.node (o102 P) BT.nil BT.nil) BT.nil) (BT.node (o84 P) BT.nil BT.nil)) (BT.node (o60 P) (BT.node (o76 P) (BT.node (o110 P) BT.nil BT.nil) BT.nil) (BT.node (o94 P) BT.nil BT.nil))) (BT.node (o87 P) (BT.node (o56 P) (BT.node (o72 P) (BT.node (o106 P) BT.nil BT.nil) BT.nil) (BT.node (o90 P) BT.nil BT.nil)) (BT.node (o64 P) (BT.node (o80 P) (BT.node (o114 P) BT.nil BT.nil) BT.nil) (BT.node (o98 P) BT.nil BT.nil)))) (BT.node (boot_o_6 P) (BT.node (boot_o_10 P) (BT.node (o54 P) (BT.node (o70 P) (BT.node (o104 P) BT.nil BT.nil) BT.nil) (BT.node (o88 P) BT.nil BT.nil)) (BT.node (o62 P) (BT.node (o78 P) (BT.node (o112 P) BT.nil BT.nil) BT.nil) (BT.node (o96 P) BT.nil BT.nil))) (BT.node (o46 P) (BT.node (o58 P) (BT.node (o74 P) (BT.node (o108 P) BT.nil BT.nil) BT.nil) (BT.node (o92 P) BT.nil BT.nil)) (BT.node (o66 P) (BT.node (o82 P) BT.nil BT.nil) (BT.node (o100 P) BT.nil BT.nil)))))
noncomputable def t145 (P : Params) : BT := BT.node (boot_o_0 P) (BT.node (boot_o_1 P) (BT.node (o116 P) (BT.node (boot_o_7 P) (BT.node (o51 P) (BT.node (o67 P) (BT.node (o101 P) BT.nil BT.nil) (BT.node (o135 P) BT.nil BT.nil)) (BT.node (o83 P) (BT.node (o119 P) BT.nil BT.nil) BT.nil)) (BT.node (o59 P) (BT.node (o75 P) (BT.node (o109 P) BT.nil BT.nil) (BT.node (o143 P) BT.nil BT.nil)) (BT.node (o93 P) (BT.node (o127 P) BT.nil BT.nil) BT.nil))) (BT.node (o43 P) (BT.node (o55 P) (BT.node (o71 P) (BT.node (o105 P) BT.nil BT.nil) (BT.node (o139 P) BT.nil BT.nil)) (BT.node (o89 P) (BT.node (o123 P) BT.nil BT.nil) BT.nil)) (BT.node (o63 P) (BT.node (o79 P) (BT.node (o113 P) BT.nil BT.nil) BT.nil) (BT.node (o97 P) (BT.node (o131 P) BT.nil BT.nil) BT.nil)))) (BT.node (boot_o_5 P) (BT.node (boot_o_9 P) (BT.node (o53 P) (BT.node (o69 P) (BT.node (o103 P) BT.nil BT.nil) (BT.node (o137 P) BT.nil BT.nil)) (BT.node (o85 P) (BT.node (o121 P) BT.nil BT.nil) BT.nil)) (BT.node (o61 P) (BT.node (o77 P) (BT.node (o111 P) BT.nil BT.nil) (BT.node (o145 P) BT.nil BT.nil)) (BT.node (o95 P) (BT.node (o129 P) BT.nil BT.nil) BT.nil))) (BT.node (o45 P) (BT.node (o57 P) (BT.node (o73 P) (BT.node (o107 P) BT.nil BT.nil) (BT.node (o141 P) BT.nil BT.nil)) (BT.node (o91 P) (BT.node (o125 P) BT.nil BT.nil) BT.nil)) (BT.node (o65 P) (BT.node (o81 P) (BT.node (o115 P) BT.nil BT.nil) BT.nil) (BT.node (o99 P) (BT.node (o133 P) BT.nil BT.nil) BT.nil))))) (BT.node (boot_o_2 P) (BT.node (boot_o_4 P) (BT.node (boot_o_8 P) (BT.node (o52 P) (BT.node (o68 P) (BT.node (o102 P) BT.nil BT.nil) (BT.node (o136 P) BT.nil BT.nil)) (BT.node (o84 P) (BT.node (o120 P) BT.nil BT.nil) BT.nil)) (BT.node (o60 P) (BT.node (o76 P) (BT.node (o110 P) BT.nil BT.nil) (BT.node (o144 P) BT.nil BT.nil)) (BT.node (o94 P) (BT.node (o128 P) BT.nil BT.nil) BT.nil))) (BT.node (o117 P) (BT.node (o56 P) (BT.node (o72 P) (BT.node (o106 P) BT.nil BT.nil) (BT.node (o140 P) BT.nil BT.nil)) (BT.node (o90 P) (BT.node (o124 P) BT.nil BT.nil) BT.nil)) (BT.node (o64 P) (BT.node (o80 P) (BT.node (o114 P) BT.nil BT.nil) BT.nil) (BT.node (o98 P) (BT.node (o132 P) BT.nil BT.nil) BT.nil)))) (BT.node (boot_o_6 P) (BT.node (boot_o_10 P) (BT.node (o54 P) (BT.node (o70 P) (BT.node (o104 P) BT.nil BT.nil) (BT.node (o138 P) BT.nil BT.nil)) (BT.node (o88 P) (BT.node (o122 P) BT.nil BT.nil) BT.nil)) (BT.node (o62 P) (BT.node (o78 P) (BT.node (o112 P) BT.nil BT.nil) BT.nil) (BT.node (o96 P) (BT.node (o130 P) BT.nil BT.nil) BT.nil))) (BT.node (o46 P) (BT.node (o58 P) (BT.node (o74 P) (BT.node (o108 P) BT.nil BT.nil) (BT.node (o142 P) BT.nil BT.nil)) (BT.node (o92 P) (BT.node (o126 P) BT.nil BT.nil) BT.nil)) (BT.node (o66 P) (BT.node (o82 P) (BT.node (o118 P) BT.nil BT.nil) BT.nil) (BT.node (o100 P) (BT.node (o134 P) BT.nil BT.nil) BT.nil)))))
noncomputable def t175 (P : Params) : BT := BT.node (boot_o_0 P) (BT.node (boot_o_1 P) (BT.node (o146 P) (BT.node (boot_o_7 P) (BT.node (o51 P) (BT.node (o67 P) (BT.node (o101 P) (BT.node (o169 P) BT.nil BT.nil) BT.nil) (BT.node (o135 P) BT.nil BT.nil)) (BT.node (o83 P) (BT.node (o119 P) BT.nil BT.nil) (BT.node (o153 P) BT.nil BT.nil))) (BT.node (o59 P) (BT.node (o75 P) (BT.node (o109 P) BT.nil BT.nil) (BT.node (o143 P) BT.nil BT.nil)) (BT.node (o93 P) (BT.node (o127 P) BT.nil BT.nil) (BT.node (o161 P) BT.nil BT.nil)))) (BT.node (o43 P) (BT.node (o55 P) (BT.node (o71 P) (BT.node (o105 P) (BT.node (o173 P) BT.nil BT.nil) BT.nil) (BT.node (o139 P) BT.nil BT.nil)) (BT.node (o89 P) (BT.node (o123 P) BT.nil BT.nil) (BT.node (o157 P) BT.nil BT.nil))) (BT.node (o63 P) (BT.node (o79 P) (BT.node (o113 P) BT.nil BT.nil) (BT.node (o149 P) BT.nil BT.nil)) (BT.node (o97 P) (BT.node (o131 P) BT.nil BT.nil) (BT.node (o165 P) BT.nil BT.nil))))) (BT.node (boot_o_5 P) (BT.node (boot_o_9 P) (BT.node (o53 P) (BT.node (o69 P) (BT.node (o103 P) (BT.node (o171 P) BT.nil BT.nil) BT.nil) (BT.node (o137 P) BT.nil BT.nil)) (BT.node (o85 P) (BT.node (o121 P) BT.nil BT.nil) (BT.node (o155 P) BT.nil BT.nil))) (BT.node (o61 P) (BT.node (o77 P) (BT.node (o111 P) BT.nil BT.nil) (BT.node (o145 P) BT.nil BT.nil)) (BT.node (o95 P) (BT.node (o129 P) BT.nil BT.nil) (BT.node (o163 P) BT.nil BT.nil)))) (BT.node (o45 P) (BT.node (o57 P) (BT.node (o73 P) (BT.node (o107 P) (BT.node (o175 P) BT.nil BT.nil) BT.nil) (BT.node (o141 P) BT.nil BT.nil)) (BT.node (o91 P) (BT.node (o125 P) BT.nil BT.nil) (BT.node (o159 P) BT.nil BT.nil))) (BT.node (o65 P) (BT.node (o81 P) (BT.node (o115 P) BT.nil BT.nil) (BT.node (o151 P) BT.nil BT.nil)) (BT.node (o99 P) (BT.node (o133 P) BT.nil BT.nil) (BT.node (o167 P) BT.nil BT.nil)))))) (BT.node (boot_o_2 P) (BT.node (boot_o_4 P) (BT.node (boot_o_8 P) (BT.node (o52 P) (BT.node (o68 P) (BT.node (o102 P) (BT.node (o170 P) BT.nil BT.nil) BT.nil) (BT.node (o136 P) BT.nil BT.nil)) (BT.node (o84 P) (BT.node (o120 P) BT.nil BT.nil) (BT.node (o154 P) BT.nil BT.nil))) (BT.node (o60 P) (BT.node (o76 P) (BT.node (o110 P) BT.nil BT.nil) (BT.node (o144 P) BT.nil BT.nil)) (BT.node (o94 P) (BT.node (o128 P) BT.nil BT.nil) (BT.node (o162 P) BT.nil BT.nil)))) (BT.node (o147 P) (BT.node (o56 P) (BT.node (o72 P) (BT.node (o106 P) (BT.node (o174 P) BT.nil BT.nil) BT.nil) (BT.node (o140 P) BT.nil BT.nil)) (BT.node (o90 P) (BT.node (o124 P) BT.nil BT.nil) (BT.node (o158 P) BT.nil BT.nil))) (BT.node (o64 P) (BT.node (o80 P) (BT.node (o114 P) BT.nil BT.nil) (BT.node (o150 P) BT.nil BT.nil)) (BT.node (o98 P) (BT.node (o132 P) BT.nil BT.nil) (BT.node (o166 P) BT.nil BT.nil))))) (BT.node (boot_o_6 P) (BT.node (boot_o_10 P) (BT.node (o54 P) (BT.node (o70 P) (BT.node (o104 P) (BT.node (o172 P) BT.nil BT.nil) BT.nil) (BT.node (o138 P) BT.nil BT.nil)) (BT.node (o88 P) (BT.node (o122 P) BT.nil BT.nil) (BT.node (o156 P) BT.nil BT.nil))) (BT.node (o62 P) (BT.node (o78 P) (BT.node (o112 P) BT.nil BT.nil) (BT.node (o148 P) BT.nil BT.nil)) (BT.node (o96 P) (BT.node (o130 P) BT.nil BT.nil) (BT.node (o164 P) BT.nil BT.nil)))) (BT.node (o46 P) (BT.node (o58 P) (BT.node (o74 P) (BT.node (o108 P) BT.nil BT.nil) (BT.node (o142 P) BT.nil BT.nil)) (BT.node (o92 P) (BT.node (o126 P) BT.nil BT.nil) (BT.node (o160 P) BT.nil BT.nil))) (BT.node (o66 P) (BT.node (o82 P) (BT.node (o118 P) BT.nil BT.nil) (BT.node (o152 P) BT.nil BT.nil)) (BT.node (o100 P) (BT.node (o134 P) BT.nil BT.nil) (BT.node (o168 P) BT.nil BT.nil))))))
noncomputable def t205 (P : Params) : BT := BT.node (boot_o_0 P) (BT.node (boot_o_1 P) (BT.node (o176 P) (BT.node (boot_o_7 P) (BT.node (o51 P) (BT.node (o67 P) (BT.node (o101 P) (BT.node (o169 P) BT.nil BT.nil) BT.nil) (BT.node (o135 P) (BT.node (o203 P) BT.nil BT.nil) BT.nil)) (BT.node (o83 P) (BT.node (o119 P) (BT.node (o187 P) BT.nil BT.nil) BT.nil) (BT.node (o153 P) BT.nil BT.nil))) (BT.node (o59 P) (BT.node (o75 P) (BT.node (o109 P) (BT.node (o179 P) BT.nil BT.nil) BT.nil) (BT.node (o143 P) BT.nil BT.nil)) (BT.node (o93 P) (BT.node (o127 P) (BT.node (o195 P) BT.nil BT.nil) BT.nil) (BT.node (o161 P) BT.nil BT.nil)))) (BT.node (o43 P) (BT.node (o55 P) (BT.node (o71 P) (BT.node (o105 P) (BT.node (o173 P) BT.nil BT.nil) BT.nil) (BT.node (o139 P) BT.nil BT.nil)) (BT.node (o89 P) (BT.node (o123 P) (BT.node (o191 P) BT.nil BT.nil) BT.nil) (BT.node (o157 P) BT.nil BT.nil))) (BT.node (o63 P) (BT.node (o79 P) (BT.node (o113 P) (BT.node (o183 P) BT.nil BT.nil) BT.nil) (BT.node (o149 P) BT.nil BT.nil)) (BT.node (o97 P) (BT.node (o131 P) (BT.node (o199 P) BT.nil BT.nil) BT.nil) (BT.node (o165 P) BT.nil BT.nil))))) (BT.node (boot_o_5 P) (BT.node (boot_o_9 P) (BT.node (o53 P) (BT.node (o69 P) (BT.node (o103 P) (BT.node (o171 P) BT.nil BT.nil) BT.nil) (BT.node (o137 P) (BT.node (o205 P) BT.nil BT.nil) BT.nil)) (BT.node (o85 P) (BT.node (o121 P) (BT.node (o189 P) BT.nil BT.nil) BT.nil) (BT.node (o155 P) BT.nil BT.nil))) (BT.node (o61 P) (BT.node (o77 P) (BT.node (o111 P) (BT.node (o181 P) BT.nil BT.nil) BT.nil) (BT.node (o145 P) BT.nil BT.nil)) (BT.node (o95 P) (BT.node (o129 P) (BT.node (o197 P) BT.nil BT.nil) BT.nil) (BT.node (o163 P) BT.nil BT.nil)))) (BT.node (o45 P) (BT.node (o57 P) (BT.node (o73 P) (BT.node (o107 P) (BT.node (o175 P) BT.nil BT.nil) BT.nil) (BT.node (o141 P) BT.nil BT.nil)) (BT.node (o91 P) (BT.node (o125 P) (BT.node (o193 P) BT.nil BT.nil) BT.nil) (BT.node (o159 P) BT.nil BT.nil))) (BT.node (o65 P) (BT.node (o81 P) (BT.node (o115 P) (BT.node (o185 P) BT.nil BT.nil) BT.nil) (BT.node (o151 P) BT.nil BT.nil)) (BT.node (o99 P) (BT.node (o133 P) (BT.node (o201 P) BT.nil BT.nil) BT.nil) (BT.node (o167 P) BT.nil BT.nil)))))) (BT.node (boot_o_2 P) (BT.node (boot_o_4 P) (BT.node (boot_o_8 P) (BT.node (o52 P) (BT.node (o68 P) (BT.node (o102 P) (BT.node (o170 P) BT.nil BT.nil) BT.nil) (BT.node (o136 P) (BT.node (o204 P) BT.nil BT.nil) BT.nil)) (BT.node (o84 P) (BT.node (o120 P) (BT.node (o188 P) BT.nil BT.nil) BT.nil) (BT.node (o154 P) BT.nil BT.nil))) (BT.node (o60 P) (BT.node (o76 P) (BT.node (o110 P) (BT.node (o180 P) BT.nil BT.nil) BT.nil) (BT.node (o144 P) BT.nil BT.nil)) (BT.node (o94 P) (BT.node (o128 P) (BT.node (o196 P) BT.nil BT.nil) BT.nil) (BT.node (o162 P) BT.nil BT.nil)))) (BT.node (o177 P) (BT.node (o56 P) (BT.node (o72 P) (BT.node (o106 P) (BT.node (o174 P) BT.nil BT.nil) BT.nil) (BT.node (o140 P) BT.nil BT.nil)) (BT.node (o90 P) (BT.node (o124 P) (BT.node (o192 P) BT.nil BT.nil) BT.nil) (BT.node (o158 P) BT.nil BT.nil))) (BT.node (o64 P) (BT.node (o80 P) (BT.node (o114 P) (BT.node (o184 P) BT.nil BT.nil) BT.nil) (BT.node (o150 P) BT.nil BT.nil)) (BT.node (o98 P) (BT.node (o132 P) (BT.node (o200 P) BT.nil BT.nil) BT.nil) (BT.node (o166 P) BT.nil BT.nil))))) (BT.node (boot_o_6 P) (BT.node (boot_o_10 P) (BT.node (o54 P) (BT.node (o70 P) (BT.node (o104 P) (BT.node (o172 P) BT.nil BT.nil) BT.nil) (BT.node (o138 P) BT.nil BT.nil)) (BT.node (o88 P) (BT.node (o122 P) (BT.node (o190 P) BT.nil BT.nil) BT.nil) (BT.node (o156 P) BT.nil BT.nil))) (BT.node (o62 P) (BT.node (o78 P) (BT.node (o112 P) (BT.node (o182 P) BT.nil BT.nil) BT.nil) (BT.node (o148 P) BT.nil BT.nil)) (BT.node (o96 P) (BT.node (o130 P) (BT.node (o198 P) BT.nil BT.nil) BT.nil) (BT.node (o164 P) BT.nil BT.nil)))) (BT.node (o46 P) (BT.node (o58 P) (BT.node (o74 P) (BT.node (o108 P) (BT.node (o178 P) BT.nil BT.nil) BT.nil) (BT.node (o142 P) BT.nil BT.nil)) (BT.node (o92 P) (BT.node (o126 P) (BT.node (o194 P) BT.nil BT.nil) BT.nil) (BT.node (o160 P) BT.nil BT.nil))) (BT.node (o66 P) (BT.node (o82 P) (BT.node (o118 P) (BT.node (o186 P) BT.nil BT.nil) BT.nil) (BT.node (o152 P) BT.nil BT.nil)) (BT.node (o100 P) (BT.node (o134 P) (BT.node (o202 P) BT.nil BT.nil) BT.nil) (BT.node (o168 P) BT.nil BT.nil))))))
noncomputable def t235 (P : Params) : BT := BT.node (boot_o_0 P) (BT.node (boot_o_1 P) (BT.node (o206 P) (BT.node (boot_o_7 P) (BT.node (o51 P) (BT.node (o67 P) (BT.node (o101 P) (BT.node (o169 P) BT.nil BT.nil) BT.nil) (BT.node (o135 P) (BT.node (o203 P) BT.nil BT.nil) BT.nil)) (BT.node (o83 P) (BT.node (o119 P) (BT.node (o187 P) BT.nil BT.nil) BT.nil) (BT.node (o153 P) (BT.node (o221 P) BT.nil BT.nil) BT.nil))) (BT.node (o59 P) (BT.node (o75 P) (BT.node (o109 P) (BT.node (o179 P) BT.nil BT.nil) BT.nil) (BT.node (o143 P) (BT.node (o213 P) BT.nil BT.nil) BT.nil)) (BT.node (o93 P) (BT.node (o127 P) (BT.node (o195 P) BT.nil BT.nil) BT.nil) (BT.node (o161 P) (BT.node (o229 P) BT.nil BT.nil) BT.nil)))) (BT.node (o43 P) (BT.node (o55 P) (BT.node (o71 P) (BT.node (o105 P) (BT.node (o173 P) BT.nil BT.nil) BT.nil) (BT.node (o139 P) (BT.node (o209 P) BT.nil BT.nil) BT.nil)) (BT.node (o89 P) (BT.node (o123 P) (BT.node (o191 P) BT.nil BT.nil) BT.nil) (BT.node (o157 P) (BT.node (o225 P) BT.nil BT.nil) BT.nil))) (BT.node (o63 P) (BT.node (o79 P) (BT.node (o113 P) (BT.node (o183 P) BT.nil BT.nil) BT.nil) (BT.node (o149 P) (BT.node (o217 P) BT.nil BT.nil) BT.nil)) (BT.node (o97 P) (BT.node (o131 P) (BT.node (o199 P) BT.nil BT.nil) BT.nil) (BT.node (o165 P) (BT.node (o233 P) BT.nil BT.nil) BT.nil))))) (BT.node (boot_o_5 P) (BT.node (boot_o_9 P) (BT.node (o53 P) (BT.node (o69 P) (BT.node (o103 P) (BT.node (o171 P) BT.nil BT.nil) BT.nil) (BT.node (o137 P) (BT.node (o205 P) BT.nil BT.nil) BT.nil)) (BT.node (o85 P) (BT.node (o121 P) (BT.node (o189 P) BT.nil BT.nil) BT.nil) (BT.node (o155 P) (BT.node (o223 P) BT.nil BT.nil) BT.nil))) (BT.node (o61 P) (BT.node (o77 P) (BT.node (o111 P) (BT.node (o181 P) BT.nil BT.nil) BT.nil) (BT.node (o145 P) (BT.node (o215 P) BT.nil BT.nil) BT.nil)) (BT.node (o95 P) (BT.node (o129 P) (BT.node (o197 P) BT.nil BT.nil) BT.nil) (BT.node (o163 P) (BT.node (o231 P) BT.nil BT.nil) BT.nil)))) (BT.node (o45 P) (BT.node (o57 P) (BT.node (o73 P) (BT.node (o107 P) (BT.node (o175 P) BT.nil BT.nil) BT.nil) (BT.node (o141 P) (BT.node (o211 P) BT.nil BT.nil) BT.nil)) (BT.node (o91 P) (BT.node (o125 P) (BT.node (o193 P) BT.nil BT.nil) BT.nil) (BT.node (o159 P) (BT.node (o227 P) BT.nil BT.nil) BT.nil))) (BT.node (o65 P) (BT.node (o81 P) (BT.node (o115 P) (BT.node (o185 P) BT.nil BT.nil) BT.nil) (BT.node (o151 P) (BT.node (o219 P) BT.nil BT.nil) BT.nil)) (BT.node (o99 P) (BT.node (o133 P) (BT.node (o201 P) BT.nil BT.nil) BT.nil) (BT.node (o167 P) (BT.node (o235 P) BT.nil BT.nil) BT.nil)))))) (BT.node (boot_o_2 P) (BT.node (boot_o_4 P) (BT.node (boot_o_8 P) (BT.node (o52 P) (BT.node (o68 P) (BT.node (o102 P) (BT.node (o170 P) BT.nil BT.nil) BT.nil) (BT.node (o136 P) (BT.node (o204 P) BT.nil BT.nil) BT.nil)) (BT.node (o84 P) (BT.node (o120 P) (BT.node (o188 P) BT.nil BT.nil) BT.nil) (BT.node (o154 P) (BT.node (o222 P) BT.nil BT.nil) BT.nil))) (BT.node (o60 P) (BT.node (o76 P) (BT.node (o110 P) (BT.node (o180 P) BT.nil BT.nil) BT.nil) (BT.node (o144 P) (BT.node (o214 P) BT.nil BT.nil) BT.nil)) (BT.node (o94 P) (BT.node (o128 P) (BT.node (o196 P) BT.nil BT.nil) BT.nil) (BT.node (o162 P) (BT.node (o230 P) BT.nil BT.nil) BT.nil)))) (BT.node (o207 P) (BT.node (o56 P) (BT.node (o72 P) (BT.node (o106 P) (BT.node (o174 P) BT.nil BT.nil) BT.nil) (BT.node (o140 P) (BT.node (o210 P) BT.nil BT.nil) BT.nil)) (BT.node (o90 P) (BT.node (o124 P) (BT.node (o192 P) BT.nil BT.nil) BT.nil) (BT.node (o158 P) (BT.node (o226 P) BT.nil BT.nil) BT.nil))) (BT.node (o64 P) (BT.node (o80 P) (BT.node (o114 P) (BT.node (o184 P) BT.nil BT.nil) BT.nil) (BT.node (o150 P) (BT.node (o218 P) BT.nil BT.nil) BT.nil)) (BT.node (o98 P) (BT.node (o132 P) (BT.node (o200 P) BT.nil BT.nil) BT.nil) (BT.node (o166 P) (BT.node (o234 P) BT.nil BT.nil) BT.nil))))) (BT.node (boot_o_6 P) (BT.node (boot_o_10 P) (BT.node (o54 P) (BT.node (o70 P) (BT.node (o104 P) (BT.node (o172 P) BT.nil BT.nil) BT.nil) (BT.node (o138 P) (BT.node (o208 P) BT.nil BT.nil) BT.nil)) (BT.node (o88 P) (BT.node (o122 P) (BT.node (o190 P) BT.nil BT.nil) BT.nil) (BT.node (o156 P) (BT.node (o224 P) BT.nil BT.nil) BT.nil))) (BT.node (o62 P) (BT.node (o78 P) (BT.node (o112 P) (BT.node (o182 P) BT.nil BT.nil) BT.nil) (BT.node (o148 P) (BT.node (o216 P) BT.nil BT.nil) BT.nil)) (BT.node (o96 P) (BT.node (o130 P) (BT.node (o198 P) BT.nil BT.nil) BT.nil) (BT.node (o164 P) (BT.node (o232 P) BT.nil BT.nil) BT.nil)))) (BT.node (o46 P) (BT.node (o58 P) (BT.node (o74 P) (BT.node (o108 P) (BT.node (o178 P) BT.nil BT.nil) BT.nil) (BT.node (o142 P) (BT.node (o212 P) BT.nil BT.nil) BT.nil)) (BT.node (o92 P) (BT.node (o126 P) (BT.node (o194 P) BT.nil BT.nil) BT.nil) (BT.node (o160 P) (BT.node (o228 P) BT.nil BT.nil) BT.nil))) (BT.node (o66 P) (BT.node (o82 P) (BT.node (o118 P) (BT.node (o186 P) BT.nil BT.nil) BT.nil) (BT.node (o152 P) (BT.node (o220 P) BT.nil BT.nil) BT.nil)) (BT.node (o100 P) (BT.node (o134 P) (BT.node (o202 P) BT.nil BT.nil) BT.nil) (BT.node (o168 P) BT.nil BT.nil))))))
noncomputable def t283 (P : Params) : BT := BT.node (boot_o_0 P) (BT.node (boot_o_1 P) (BT.node (o236 P) (BT.node (boot_o_7 P) (BT.node (o51 P) (BT.node (o67 P) (BT.node (o101 P) (BT.node (o169 P) BT.nil BT.nil) (BT.node (o239 P) BT.nil BT.nil)) (BT.node (o135 P) (BT.node (o203 P) BT.nil BT.nil) (BT.node (o271 P) BT.nil BT.nil))) (BT.node (o83 P) (BT.node (o119 P) (BT.node (o187 P) BT.nil BT.nil) (BT.node (o255 P) BT.nil BT.nil)) (BT.node (o153 P) (BT.node (o221 P) BT.nil BT.nil) BT.nil))) (BT.node (o59 P) (BT.node (o75 P) (BT.node (o109 P) (BT.node (o179 P) BT.nil BT.nil) (BT.node (o247 P) BT.nil BT.nil)) (BT.node (o143 P) (BT.node (o213 P) BT.nil BT.nil) (BT.node (o279 P) BT.nil BT.nil))) (BT.node (o93 P) (BT.node (o127 P) (BT.node (o195 P) BT.nil BT.nil) (BT.node (o263 P) BT.nil BT.nil)) (BT.node (o161 P) (BT.node (o229 P) BT.nil BT.nil) BT.nil)))) (BT.node (o43 P) (BT.node (o55 P) (BT.node (o71 P) (BT.node (o105 P) (BT.node (o173 P) BT.nil BT.nil) (BT.node (o243 P) BT.nil BT.nil)) (BT.node (o139 P) (BT.node (o209 P) BT.nil BT.nil) (BT.node (o275 P) BT.nil BT.nil))) (BT.node (o89 P) (BT.node (o123 P) (BT.node (o191 P) BT.nil BT.nil) (BT.node (o259 P) BT.nil BT.nil)) (BT.node (o157 P) (BT.node (o225 P) BT.nil BT.nil) BT.nil))) (BT.node (o63 P) (BT.node (o79 P) (BT.node (o113 P) (BT.node (o183 P) BT.nil BT.nil) (BT.node (o251 P) BT.nil BT.nil)) (BT.node (o149 P) (BT.node (o217 P) BT.nil BT.nil) (BT.node (o283 P) BT.nil BT.nil))) (BT.node (o97 P) (BT.node (o131 P) (BT.node (o199 P) BT.nil BT.nil) (BT.node (o267 P) BT.nil BT.nil)) (BT.node (o165 P) (BT.node (o233 P) BT.nil BT.nil) BT.nil))))) (BT.node (boot_o_5 P) (BT.node (boot_o_9 P) (BT.node (o53 P) (BT.node (o69 P) (BT.node (o103 P) (BT.node (o171 P) BT.nil BT.nil) (BT.node (o241 P) BT.nil BT.nil)) (BT.node (o137 P) (BT.node (o205 P) BT.nil BT.nil) (BT.node (o273 P) BT.nil BT.nil))) (BT.node (o85 P) (BT.node (o121 P) (BT.node (o189 P) BT.nil BT.nil) (BT.node (o257 P) BT.nil BT.nil)) (BT.node (o155 P) (BT.node (o223 P) BT.nil BT.nil) BT.nil))) (BT.node (o61 P) (BT.node (o77 P) (BT.node (o111 P) (BT.node (o181 P) BT.nil BT.nil) (BT.node (o249 P) BT.nil BT.nil)) (BT.node (o145 P) (BT.node (o215 P) BT.nil BT.nil) (BT.node (o281 P) BT.nil BT.nil))) (BT.node (o95 P) (BT.node (o129 P) (BT.node (o197 P) BT.nil BT.nil) (BT.node (o265 P) BT.nil BT.nil)) (BT.node (o163 P) (BT.node (o231 P) BT.nil BT.nil) BT.nil)))) (BT.node (o45 P) (BT.node (o57 P) (BT.node (o73 P) (BT.node (o107 P) (BT.node (o175 P) BT.nil BT.nil) (BT.node (o245 P) BT.nil BT.nil)) (BT.node (o141 P) (BT.node (o211 P) BT.nil BT.nil) (BT.node (o277 P) BT.nil BT.nil))) (BT.node (o91 P) (BT.node (o125 P) (BT.node (o193 P) BT.nil BT.nil) (BT.node (o261 P) BT.nil BT.nil)) (BT.node (o159 P) (BT.node (o227 P) BT.nil BT.nil) BT.nil))) (BT.node (o65 P) (BT.node (o81 P) (BT.node (o115 P) (BT.node (o185 P) BT.nil BT.nil) (BT.node (o253 P) BT.nil BT.nil)) (BT.node (o151 P) (BT.node (o219 P) BT.nil BT.nil) BT.nil)) (BT.node (o99 P) (BT.node (o133 P) (BT.node (o201 P) BT.nil BT.nil) (BT.node (o269 P) BT.nil BT.nil)) (BT.node (o167 P) (BT.node (o235 P) BT.nil BT.nil) BT.nil)))))) (BT.node (boot_o_2 P) (BT.node (boot_o_4 P) (BT.node (boot_o_8 P) (BT.node (o52 P) (BT.node (o68 P) (BT.node (o102 P) (BT.node (o170 P) BT.nil BT.nil) (BT.node (o240 P) BT.nil BT.nil)) (BT.node (o136 P) (BT.node (o204 P) BT.nil BT.nil) (BT.node (o272 P) BT.nil BT.nil))) (BT.node (o84 P) (BT.node (o120 P) (BT.node (o188 P) BT.nil BT.nil) (BT.node (o256 P) BT.nil BT.nil)) (BT.node (o154 P) (BT.node (o222 P) BT.nil BT.nil) BT.nil))) (BT.node (o60 P) (BT.node (o76 P) (BT.node (o110 P) (BT.node (o180 P) BT.nil BT.nil) (BT.node (o248 P) BT.nil BT.nil)) (BT.node (o144 P) (BT.node (o214 P) BT.nil BT.nil) (BT.node (o280 P) BT.nil BT.nil))) (BT.node (o94 P) (BT.node (o128 P) (BT.node (o196 P) BT.nil BT.nil) (BT.node (o264 P) BT.nil BT.nil)) (BT.node (o162 P) (BT.node (o230 P) BT.nil BT.nil) BT.nil)))) (BT.node (o237 P) (BT.node (o56 P) (BT.node (o72 P) (BT.node (o106 P) (BT.node (o174 P) BT.nil BT.nil) (BT.node (o244 P) BT.nil BT.nil)) (BT.node (o140 P) (BT.node (o210 P) BT.nil BT.nil) (BT.node (o276 P) BT.nil BT.nil))) (BT.node (o90 P) (BT.node (o124 P) (BT.node (o192 P) BT.nil BT.nil) (BT.node (o260 P) BT.nil BT.nil)) (BT.node (o158 P) (BT.node (o226 P) BT.nil BT.nil) BT.nil))) (BT.node (o64 P) (BT.node (o80 P) (BT.node (o114 P) (BT.node (o184 P) BT.nil BT.nil) (BT.node (o252 P) BT.nil BT.nil)) (BT.node (o150 P) (BT.node (o218 P) BT.nil BT.nil) BT.nil)) (BT.node (o98 P) (BT.node (o132 P) (BT.node (o200 P) BT.nil BT.nil) (BT.node (o268 P) BT.nil BT.nil)) (BT.node (o166 P) (BT.node (o234 P) BT.nil BT.nil) BT.nil))))) (BT.node (boot_o_6 P) (BT.node (boot_o_10 P) (BT.node (o54 P) (BT.node (o70 P) (BT.node (o104 P) (BT.node (o172 P) BT.nil BT.nil) (BT.node (o242 P) BT.nil BT.nil)) (BT.node (o138 P) (BT.node (o208 P) BT.nil BT.nil) (BT.node (o274 P) BT.nil BT.nil))) (BT.node (o88 P) (BT.node (o122 P) (BT.node (o190 P) BT.nil BT.nil) (BT.node (o258 P) BT.nil BT.nil)) (BT.node (o156 P) (BT.node (o224 P) BT.nil BT.nil) BT.nil))) (BT.node (o62 P) (BT.node (o78 P) (BT.node (o112 P) (BT.node (o182 P) BT.nil BT.nil) (BT.node (o250 P) BT.nil BT.nil)) (BT.node (o148 P) (BT.node (o216 P) BT.nil BT.nil) (BT.node (o282 P) BT.nil BT.nil))) (BT.node (o96 P) (BT.node (o130 P) (BT.node (o198 P) BT.nil BT.nil) (BT.node (o266 P) BT.nil BT.nil)) (BT.node (o164 P) (BT.node (o232 P) BT.nil BT.nil) BT.nil)))) (BT.node (o46 P) (BT.node (o58 P) (BT.node (o74 P) (BT.node (o108 P) (BT.node (o178 P) BT.nil BT.nil) (BT.node (o246 P) BT.nil BT.nil)) (BT.node (o142 P) (BT.node (o212 P) BT.nil BT.nil) (BT.node (o278 P) BT.nil BT.nil))) (BT.node (o92 P) (BT.node (o126 P) (BT.node (o194 P) BT.nil BT.nil) (BT.node (o262 P) BT.nil BT.nil)) (BT.node (o160 P) (BT.node (o228 P) BT.nil BT.nil) BT.nil))) (BT.node (o66 P) (BT.node (o82 P) (BT.node (o118 P) (BT.node (o186 P) BT.nil BT.nil) (BT.node (o254 P) BT.nil BT.nil)) (BT.node (o152 P) (BT.node (o220 P) BT.nil BT.nil) BT.nil)) (BT.node (o100 P) (BT.node (o134 P) (BT.node (o202 P) BT.nil BT.nil) (BT.node (o270 P) BT.nil BT.nil)) (BT.node (o168 P) (BT.node (o238 P) BT.nil BT.nil) BT.nil))))))
noncomputable def t341 (P : Params) : BT := BT.node (boot_o_0 P) (BT.node (boot_o_1 P) (BT.node (o284 P) (BT.node (boot_o_7 P) (BT.node (o51 P) (BT.node (o67 P) (BT.node (o101 P) (BT.node (o169 P) (BT.node (o305 P) BT.nil BT.nil) BT.nil) (BT.node (o239 P) BT.nil BT.nil)) (BT.node (o135 P) (BT.node (o203 P) (BT.node (o337 P) BT.nil BT.nil) BT.nil) (BT.node (o271 P) BT.nil BT.nil))) (BT.node (o83 P) (BT.node (o119 P) (BT.node (o187 P) (BT.node (o321 P) BT.nil BT.nil) BT.nil) (BT.node (o255 P) BT.nil BT.nil)) (BT.node (o153 P) (BT.node (o221 P) BT.nil BT.nil) (BT.node (o289 P) BT.nil BT.nil)))) (BT.node (o59 P) (BT.node (o75 P) (BT.node (o109 P) (BT.node (o179 P) (BT.node (o313 P) BT.nil BT.nil) BT.nil) (BT.node (o247 P) BT.nil BT.nil)) (BT.node (o143 P) (BT.node (o213 P) BT.nil BT.nil) (BT.node (o279 P) BT.nil BT.nil))) (BT.node (o93 P) (BT.node (o127 P) (BT.node (o195 P) (BT.node (o329 P) BT.nil BT.nil) BT.nil) (BT.node (o263 P) BT.nil BT.nil)) (BT.node (o161 P) (BT.node (o229 P) BT.nil BT.nil) (BT.node (o297 P) BT.nil BT.nil))))) (BT.node (o43 P) (BT.node (o55 P) (BT.node (o71 P) (BT.node (o105 P) (BT.node (o173 P) (BT.node (o309 P) BT.nil BT.nil) BT.nil) (BT.node (o243 P) BT.nil BT.nil)) (BT.node (o139 P) (BT.node (o209 P) (BT.node (o341 P) BT.nil BT.nil) BT.nil) (BT.node (o275 P) BT.nil BT.nil))) (BT.node (o89 P) (BT.node (o123 P) (BT.node (o191 P) (BT.node (o325 P) BT.nil BT.nil) BT.nil) (BT.node (o259 P) BT.nil BT.nil)) (BT.node (o157 P) (BT.node (o225 P) BT.nil BT.nil) (BT.node (o293 P) BT.nil BT.nil)))) (BT.node (o63 P) (BT.node (o79 P) (BT.node (o113 P) (BT.node (o183 P) (BT.node (o317 P) BT.nil BT.nil) BT.nil) (BT.node (o251 P) BT.nil BT.nil)) (BT.node (o149 P) (BT.node (o217 P) BT.nil BT.nil) (BT.node (o283 P) BT.nil BT.nil))) (BT.node (o97 P) (BT.node (o131 P) (BT.node (o199 P) (BT.node (o333 P) BT.nil BT.nil) BT.nil) (BT.node (o267 P) BT.nil BT.nil)) (BT.node (o165 P) (BT.node (o233 P) BT.nil BT.nil) (BT.node (o301 P) BT.nil BT.nil)))))) (BT.node (boot_o_5 P) (BT.node (boot_o_9 P) (BT.node (o53 P) (BT.node (o69 P) (BT.node (o103 P) (BT.node (o171 P) (BT.node (o307 P) BT.nil BT.nil) BT.nil) (BT.node (o241 P) BT.nil BT.nil)) (BT.node (o137 P) (BT.node (o205 P) (BT.node (o339 P) BT.nil BT.nil) BT.nil) (BT.node (o273 P) BT.nil BT.nil))) (BT.node (o85 P) (BT.node (o121 P) (BT.node (o189 P) (BT.node (o323 P) BT.nil BT.nil) BT.nil) (BT.node (o257 P) BT.nil BT.nil)) (BT.node (o155 P) (BT.node (o223 P) BT.nil BT.nil) (BT.node (o291 P) BT.nil BT.nil)))) (BT.node (o61 P) (BT.node (o77 P) (BT.node (o111 P) (BT.node (o181 P) (BT.node (o315 P) BT.nil BT.nil) BT.nil) (BT.node (o249 P) BT.nil BT.nil)) (BT.node (o145 P) (BT.node (o215 P) BT.nil BT.nil) (BT.node (o281 P) BT.nil BT.nil))) (BT.node (o95 P) (BT.node (o129 P) (BT.node (o197 P) (BT.node (o331 P) BT.nil BT.nil) BT.nil) (BT.node (o265 P) BT.nil BT.nil)) (BT.node (o163 P) (BT.node (o231 P) BT.nil BT.nil) (BT.node (o299 P) BT.nil BT.nil))))) (BT.node (o45 P) (BT.node (o57 P) (BT.node (o73 P) (BT.node (o107 P) (BT.node (o175 P) (BT.node (o311 P) BT.nil BT.nil) BT.nil) (BT.node (o245 P) BT.nil BT.nil)) (BT.node (o141 P) (BT.node (o211 P) BT.nil BT.nil) (BT.node (o277 P) BT.nil BT.nil))) (BT.node (o91 P) (BT.node (o125 P) (BT.node (o193 P) (BT.node (o327 P) BT.nil BT.nil) BT.nil) (BT.node (o261 P) BT.nil BT.nil)) (BT.node (o159 P) (BT.node (o227 P) BT.nil BT.nil) (BT.node (o295 P) BT.nil BT.nil)))) (BT.node (o65 P) (BT.node (o81 P) (BT.node (o115 P) (BT.node (o185 P) (BT.node (o319 P) BT.nil BT.nil) BT.nil) (BT.node (o253 P) BT.nil BT.nil)) (BT.node (o151 P) (BT.node (o219 P) BT.nil BT.nil) (BT.node (o287 P) BT.nil BT.nil))) (BT.node (o99 P) (BT.node (o133 P) (BT.node (o201 P) (BT.node (o335 P) BT.nil BT.nil) BT.nil) (BT.node (o269 P) BT.nil BT.nil)) (BT.node (o167 P) (BT.node (o235 P) BT.nil BT.nil) (BT.node (o303 P) BT.nil BT.nil))))))) (BT.node (boot_o_2 P) (BT.node (boot_o_4 P) (BT.node (boot_o_8 P) (BT.node (o52 P) (BT.node (o68 P) (BT.node (o102 P) (BT.node (o170 P) (BT.node (o306 P) BT.nil BT.nil) BT.nil) (BT.node (o240 P) BT.nil BT.nil)) (BT.node (o136 P) (BT.node (o204 P) (BT.node (o338 P) BT.nil BT.nil) BT.nil) (BT.node (o272 P) BT.nil BT.nil))) (BT.node (o84 P) (BT.node (o120 P) (BT.node (o188 P) (BT.node (o322 P) BT.nil BT.nil) BT.nil) (BT.node (o256 P) BT.nil BT.nil)) (BT.node (o154 P) (BT.node (o222 P) BT.nil BT.nil) (BT.node (o290 P) BT.nil BT.nil)))) (BT.node (o60 P) (BT.node (o76 P) (BT.node (o110 P) (BT.node (o180 P) (BT.node (o314 P) BT.nil BT.nil) BT.nil) (BT.node (o248 P) BT.nil BT.nil)) (BT.node (o144 P) (BT.node (o214 P) BT.nil BT.nil) (BT.node (o280 P) BT.nil BT.nil))) (BT.node (o94 P) (BT.node (o128 P) (BT.node (o196 P) (BT.node (o330 P) BT.nil BT.nil) BT.nil) (BT.node (o264 P) BT.nil BT.nil)) (BT.node (o162 P) (BT.node (o230 P) BT.nil BT.nil) (BT.node (o298 P) BT.nil BT.nil))))) (BT.node (o285 P) (BT.node (o56 P) (BT.node (o72 P) (BT.node (o106 P) (BT.node (o174 P) (BT.node (o310 P) BT.nil BT.nil) BT.nil) (BT.node (o244 P) BT.nil BT.nil)) (BT.node (o140 P) (BT.node (o210 P) BT.nil BT.nil) (BT.node (o276 P) BT.nil BT.nil))) (BT.node (o90 P) (BT.node (o124 P) (BT.node (o192 P) (BT.node (o326 P) BT.nil BT.nil) BT.nil) (BT.node (o260 P) BT.nil BT.nil)) (BT.node (o158 P) (BT.node (o226 P) BT.nil BT.nil) (BT.node (o294 P) BT.nil BT.nil)))) (BT.node (o64 P) (BT.node (o80 P) (BT.node (o114 P) (BT.node (o184 P) (BT.node (o318 P) BT.nil BT.nil) BT.nil) (BT.node (o252 P) BT.nil BT.nil)) (BT.node (o150 P) (BT.node (o218 P) BT.nil BT.nil) (BT.node (o286 P) BT.nil BT.nil))) (BT.node (o98 P) (BT.node (o132 P) (BT.node (o200 P) (BT.node (o334 P) BT.nil BT.nil) BT.nil) (BT.node (o268 P) BT.nil BT.nil)) (BT.node (o166 P) (BT.node (o234 P) BT.nil BT.nil) (BT.node (o302 P) BT.nil BT.nil)))))) (BT.node (boot_o_6 P) (BT.node (boot_o_10 P) (BT.node (o54 P) (BT.node (o70 P) (BT.node (o104 P) (BT.node (o172 P) (BT.node (o308 P) BT.nil BT.nil) BT.nil) (BT.node (o242 P) BT.nil BT.nil)) (BT.node (o138 P) (BT.node (o208 P) (BT.node (o340 P) BT.nil BT.nil) BT.nil) (BT.node (o274 P) BT.nil BT.nil))) (BT.node (o88 P) (BT.node (o122 P) (BT.node (o190 P) (BT.node (o324 P) BT.nil BT.nil) BT.nil) (BT.node (o258 P) BT.nil BT.nil)) (BT.node (o156 P) (BT.node (o224 P) BT.nil BT.nil) (BT.node (o292 P) BT.nil BT.nil)))) (BT.node (o62 P) (BT.node (o78 P) (BT.node (o112 P) (BT.node (o182 P) (BT.node (o316 P) BT.nil BT.nil) BT.nil) (BT.node (o250 P) BT.nil BT.nil)) (BT.node (o148 P) (BT.node (o216 P) BT.nil BT.nil) (BT.node (o282 P) BT.nil BT.nil))) (BT.node (o96 P) (BT.node (o130 P) (BT.node (o198 P) (BT.node (o332 P) BT.nil BT.nil) BT.nil) (BT.node (o266 P) BT.nil BT.nil)) (BT.node (o164 P) (BT.node (o232 P) BT.nil BT.nil) (BT.node (o300 P) BT.nil BT.nil))))) (BT.node (o46 P) (BT.node (o58 P) (BT.node (o74 P) (BT.node (o108 P) (BT.node (o178 P) (BT.node (o312 P) BT.nil BT.nil) BT.nil) (BT.node (o246 P) BT.nil BT.nil)) (BT.node (o142 P) (BT.node (o212 P) BT.nil BT.nil) (BT.node (o278 P) BT.nil BT.nil))) (BT.node (o92 P) (BT.node (o126 P) (BT.node (o194 P) (BT.node (o328 P) BT.nil BT.nil) BT.nil) (BT.node (o262 P) BT.nil BT.nil)) (BT.node (o160 P) (BT.node (o228 P) BT.nil BT.nil) (BT.node (o296 P) BT.nil BT.nil)))) (BT.node (o66 P) (BT.node (o82 P) (BT.node (o118 P) (BT.node (o186 P) (BT.node (o320 P) BT.nil BT.nil) BT.nil) (BT.node (o254 P) BT.nil BT.nil)) (BT.node (o152 P) (BT.node (o220 P) BT.nil BT.nil) (BT.node (o288 P) BT.nil BT.nil))) (BT.node (o100 P) (BT.node (o134 P) (BT.node (o202 P) (BT.node (o336 P) BT.nil BT.nil) BT.nil) (BT.node (o270 P) BT.nil BT.nil)) (BT.node (o168 P) (BT.node (o238 P) BT.nil BT.nil) (BT.node (o304 P) BT.nil BT.nil)))))))
noncomputable def t381 (P : Params) : BT := BT.node (boot_o_0 P) (BT.node (boot_o_1 P) (BT.node (o342 P) (BT.node (boot_o_7 P) (BT.node (o51 P) (BT.node (o67 P) (BT.node (o101 P) (BT.node (o169 P) (BT.node (o305 P) BT.nil BT.nil) BT.nil) (BT.node (o239 P) (BT.node (o371 P) BT.nil BT.nil) BT.nil)) (BT.node (o135 P) (BT.node (o203 P) (BT.node (o337 P) BT.nil BT.nil) BT.nil) (BT.node (o271 P) BT.nil BT.nil))) (BT.node (o83 P) (BT.node (o119 P) (BT.node (o187 P) (BT.node (o321 P) BT.nil BT.nil) BT.nil) (BT.node (o255 P) BT.nil BT.nil)) (BT.node (o153 P) (BT.node (o221 P) (BT.node (o355 P) BT.nil BT.nil) BT.nil) (BT.node (o289 P) BT.nil BT.nil)))) (BT.node (o59 P) (BT.node (o75 P) (BT.node (o109 P) (BT.node (o179 P) (BT.node (o313 P) BT.nil BT.nil) BT.nil) (BT.node (o247 P) (BT.node (o379 P) BT.nil BT.nil) BT.nil)) (BT.node (o143 P) (BT.node (o213 P) (BT.node (o347 P) BT.nil BT.nil) BT.nil) (BT.node (o279 P) BT.nil BT.nil))) (BT.node (o93 P) (BT.node (o127 P) (BT.node (o195 P) (BT.node (o329 P) BT.nil BT.nil) BT.nil) (BT.node (o263 P) BT.nil BT.nil)) (BT.node (o161 P) (BT.node (o229 P) (BT.node (o363 P) BT.nil BT.nil) BT.nil) (BT.node (o297 P) BT.nil BT.nil))))) (BT.node (o43 P) (BT.node (o55 P) (BT.node (o71 P) (BT.node (o105 P) (BT.node (o173 P) (BT.node (o309 P) BT.nil BT.nil) BT.nil) (BT.node (o243 P) (BT.node (o375 P) BT.nil BT.nil) BT.nil)) (BT.node (o139 P) (BT.node (o209 P) (BT.node (o341 P) BT.nil BT.nil) BT.nil) (BT.node (o275 P) BT.nil BT.nil))) (BT.node (o89 P) (BT.node (o123 P) (BT.node (o191 P) (BT.node (o325 P) BT.nil BT.nil) BT.nil) (BT.node (o259 P) BT.nil BT.nil)) (BT.node (o157 P) (BT.node (o225 P) (BT.node (o359 P) BT.nil BT.nil) BT.nil) (BT.node (o293 P) BT.nil BT.nil)))) (BT.node (o63 P) (BT.node (o79 P) (BT.node (o113 P) (BT.node (o183 P) (BT.node (o317 P) BT.nil BT.nil) BT.nil) (BT.node (o251 P) BT.nil BT.nil)) (BT.node (o149 P) (BT.node (o217 P) (BT.node (o351 P) BT.nil BT.nil) BT.nil) (BT.node (o283 P) BT.nil BT.nil))) (BT.node (o97 P) (BT.node (o131 P) (BT.node (o199 P) (BT.node (o333 P) BT.nil BT.nil) BT.nil) (BT.node (o267 P) BT.nil BT.nil)) (BT.node (o165 P) (BT.node (o233 P) (BT.node (o367 P) BT.nil BT.nil) BT.nil) (BT.node (o301 P) BT.nil BT.nil)))))) (BT.node (boot_o_5 P) (BT.node (boot_o_9 P) (BT.node (o53 P) (BT.node (o69 P) (BT.node (o103 P) (BT.node (o171 P) (BT.node (o307 P) BT.nil BT.nil) BT.nil) (BT.node (o241 P) (BT.node (o373 P) BT.nil BT.nil) BT.nil)) (BT.node (o137 P) (BT.node (o205 P) (BT.node (o339 P) BT.nil BT.nil) BT.nil) (BT.node (o273 P) BT.nil BT.nil))) (BT.node (o85 P) (BT.node (o121 P) (BT.node (o189 P) (BT.node (o323 P) BT.nil BT.nil) BT.nil) (BT.node (o257 P) BT.nil BT.nil)) (BT.node (o155 P) (BT.node (o223 P) (BT.node (o357 P) BT.nil BT.nil) BT.nil) (BT.node (o291 P) BT.nil BT.nil)))) (BT.node (o61 P) (BT.node (o77 P) (BT.node (o111 P) (BT.node (o181 P) (BT.node (o315 P) BT.nil BT.nil) BT.nil) (BT.node (o249 P) (BT.node (o381 P) BT.nil BT.nil) BT.nil)) (BT.node (o145 P) (BT.node (o215 P) (BT.node (o349 P) BT.nil BT.nil) BT.nil) (BT.node (o281 P) BT.nil BT.nil))) (BT.node (o95 P) (BT.node (o129 P) (BT.node (o197 P) (BT.node (o331 P) BT.nil BT.nil) BT.nil) (BT.node (o265 P) BT.nil BT.nil)) (BT.node (o163 P) (BT.node (o231 P) (BT.node (o365 P) BT.nil BT.nil) BT.nil) (BT.node (o299 P) BT.nil BT.nil))))) (BT.node (o45 P) (BT.node (o57 P) (BT.node (o73 P) (BT.node (o107 P) (BT.node (o175 P) (BT.node (o311 P) BT.nil BT.nil) BT.nil) (BT.node (o245 P) (BT.node (o377 P) BT.nil BT.nil) BT.nil)) (BT.node (o141 P) (BT.node (o211 P) (BT.node (o345 P) BT.nil BT.nil) BT.nil) (BT.node (o277 P) BT.nil BT.nil))) (BT.node (o91 P) (BT.node (o125 P) (BT.node (o193 P) (BT.node (o327 P) BT.nil BT.nil) BT.nil) (BT.node (o261 P) BT.nil BT.nil)) (BT.node (o159 P) (BT.node (o227 P) (BT.node (o361 P) BT.nil BT.nil) BT.nil) (BT.node (o295 P) BT.nil BT.nil)))) (BT.node (o65 P) (BT.node (o81 P) (BT.node (o115 P) (BT.node (o185 P) (BT.node (o319 P) BT.nil BT.nil) BT.nil) (BT.node (o253 P) BT.nil BT.nil)) (BT.node (o151 P) (BT.node (o219 P) (BT.node (o353 P) BT.nil BT.nil) BT.nil) (BT.node (o287 P) BT.nil BT.nil))) (BT.node (o99 P) (BT.node (o133 P) (BT.node (o201 P) (BT.node (o335 P) BT.nil BT.nil) BT.nil) (BT.node (o269 P) BT.nil BT.nil)) (BT.node (o167 P) (BT.node (o235 P) (BT.node (o369 P) BT.nil BT.nil) BT.nil) (BT.node (o303 P) BT.nil BT.nil))))))) (BT.node (boot_o_2 P) (BT.node (boot_o_4 P) (BT.node (boot_o_8 P) (BT.node (o52 P) (BT.node (o68 P) (BT.node (o102 P) (BT.node (o170 P) (BT.node (o306 P) BT.nil BT.nil) BT.nil) (BT.node (o240 P) (BT.node (o372 P) BT.nil BT.nil) BT.nil)) (BT.node (o136 P) (BT.node (o204 P) (BT.node (o338 P) BT.nil BT.nil) BT.nil) (BT.node (o272 P) BT.nil BT.nil))) (BT.node (o84 P) (BT.node (o120 P) (BT.node (o188 P) (BT.node (o322 P) BT.nil BT.nil) BT.nil) (BT.node (o256 P) BT.nil BT.nil)) (BT.node (o154 P) (BT.node (o222 P) (BT.node (o356 P) BT.nil BT.nil) BT.nil) (BT.node (o290 P) BT.nil BT.nil)))) (BT.node (o60 P) (BT.node (o76 P) (BT.node (o110 P) (BT.node (o180 P) (BT.node (o314 P) BT.nil BT.nil) BT.nil) (BT.node (o248 P) (BT.node (o380 P) BT.nil BT.nil) BT.nil)) (BT.node (o144 P) (BT.node (o214 P) (BT.node (o348 P) BT.nil BT.nil) BT.nil) (BT.node (o280 P) BT.nil BT.nil))) (BT.node (o94 P) (BT.node (o128 P) (BT.node (o196 P) (BT.node (o330 P) BT.nil BT.nil) BT.nil) (BT.node (o264 P) BT.nil BT.nil)) (BT.node (o162 P) (BT.node (o230 P) (BT.node (o364 P) BT.nil BT.nil) BT.nil) (BT.node (o298 P) BT.nil BT.nil))))) (BT.node (o343 P) (BT.node (o56 P) (BT.node (o72 P) (BT.node (o106 P) (BT.node (o174 P) (BT.node (o310 P) BT.nil BT.nil) BT.nil) (BT.node (o244 P) (BT.node (o376 P) BT.nil BT.nil) BT.nil)) (BT.node (o140 P) (BT.node (o210 P) (BT.node (o344 P) BT.nil BT.nil) BT.nil) (BT.node (o276 P) BT.nil BT.nil))) (BT.node (o90 P) (BT.node (o124 P) (BT.node (o192 P) (BT.node (o326 P) BT.nil BT.nil) BT.nil) (BT.node (o260 P) BT.nil BT.nil)) (BT.node (o158 P) (BT.node (o226 P) (BT.node (o360 P) BT.nil BT.nil) BT.nil) (BT.node (o294 P) BT.nil BT.nil)))) (BT.node (o64 P) (BT.node (o80 P) (BT.node (o114 P) (BT.node (o184 P) (BT.node (o318 P) BT.nil BT.nil) BT.nil) (BT.node (o252 P) BT.nil BT.nil)) (BT.node (o150 P) (BT.node (o218 P) (BT.node (o352 P) BT.nil BT.nil) BT.nil) (BT.node (o286 P) BT.nil BT.nil))) (BT.node (o98 P) (BT.node (o132 P) (BT.node (o200 P) (BT.node (o334 P) BT.nil BT.nil) BT.nil) (BT.node (o268 P) BT.nil BT.nil)) (BT.node (o166 P) (BT.node (o234 P) (BT.node (o368 P) BT.nil BT.nil) BT.nil) (BT.node (o302 P) BT.nil BT.nil)))))) (BT.node (boot_o_6 P) (BT.node (boot_o_10 P) (BT.node (o54 P) (BT.node (o70 P) (BT.node (o104 P) (BT.node (o172 P) (BT.node (o308 P) BT.nil BT.nil) BT.nil) (BT.node (o242 P) (BT.node (o374 P) BT.nil BT.nil) BT.nil)) (BT.node (o138 P) (BT.node (o208 P) (BT.node (o340 P) BT.nil BT.nil) BT.nil) (BT.node (o274 P) BT.nil BT.nil))) (BT.node (o88 P) (BT.node (o122 P) (BT.node (o190 P) (BT.node (o324 P) BT.nil BT.nil) BT.nil) (BT.node (o258 P) BT.nil BT.nil)) (BT.node (o156 P) (BT.node (o224 P) (BT.node (o358 P) BT.nil BT.nil) BT.nil) (BT.node (o292 P) BT.nil BT.nil)))) (BT.node (o62 P) (BT.node (o78 P) (BT.node (o112 P) (BT.node (o182 P) (BT.node (o316 P) BT.nil BT.nil) BT.nil) (BT.node (o250 P) BT.nil BT.nil)) (BT.node (o148 P) (BT.node (o216 P) (BT.node (o350 P) BT.nil BT.nil) BT.nil) (BT.node (o282 P) BT.nil BT.nil))) (BT.node (o96 P) (BT.node (o130 P) (BT.node (o198 P) (BT.node (o332 P) BT.nil BT.nil) BT.nil) (BT.node (o266 P) BT.nil BT.nil)) (BT.node (o164 P) (BT.node (o232 P) (BT.node (o366 P) BT.nil BT.nil) BT.nil) (BT.node (o300 P) BT.nil BT.nil))))) (BT.node (o46 P) (BT.node (o58 P) (BT.node (o74 P) (BT.node (o108 P) (BT.node (o178 P) (BT.node (o312 P) BT.nil BT.nil) BT.nil) (BT.node (o246 P) (BT.node (o378 P) BT.nil BT.nil) BT.nil)) (BT.node (o142 P) (BT.node (o212 P) (BT.node (o346 P) BT.nil BT.nil) BT.nil) (BT.node (o278 P) BT.nil BT.nil))) (BT.node (o92 P) (BT.node (o126 P) (BT.node (o194 P) (BT.node (o328 P) BT.nil BT.nil) BT.nil) (BT.node (o262 P) BT.nil BT.nil)) (BT.node (o160 P) (BT.node (o228 P) (BT.node (o362 P) BT.nil BT.nil) BT.nil) (BT.node (o296 P) BT.nil BT.nil)))) (BT.node (o66 P) (BT.node (o82 P) (BT.node (o118 P) (BT.node (o186 P) (BT.node (o320 P) BT.nil BT.nil) BT.nil) (BT.node (o254 P) BT.nil BT.nil)) (BT.node (o152 P) (BT.node (o220 P) (BT.node (o354 P) BT.nil BT.nil) BT.nil) (BT.node (o288 P) BT.nil BT.nil))) (BT.node (o100 P) (BT.node (o134 P) (BT.node (o202 P) (BT.node (o336 P) BT.nil BT.nil) BT.nil) (BT.node (o270 P) BT.nil BT.nil)) (BT.node (o168 P) (BT.node (o238 P) (BT.node (o370 P) BT.nil BT.nil) BT.nil) (BT.node (o304 P) BT.nil BT.nil)))))))
noncomputable def h46 (P : Params) : Heap := Heap.mk (Array.mk [boot_o_0 P, boot_o_1 P, boot_o_2 P, boot_o_3 P, boot_o_4 P, boot_o_5 P, boot_o_6 P, boot_o_7 P, boot_o_8 P, boot_o_9 P, boot_o_10 P, o43 P, o44 P, o45 P, o46 P]) life
noncomputable def h382 (P : Params) : Heap := Heap.mk (Array.mk [boot_o_0 P, boot_o_1 P, boot_o_2 P, o342 P, boot_o_4 P, boot_o_5 P, boot_o_6 P, boot_o_7 P, boot_o_8 P, boot_o_9 P, boot_o_10 P, o43 P, o343 P, o45 P, o46 P, o51 P, o52 P, o53 P, o54 P, o55 P, o56 P, o57 P, o58 P, o59 P, o60 P, o61 P, o62 P, o63 P, o64 P, o65 P, o66 P, o67 P, o68 P, o69 P, o70 P, o71 P, o72 P, o73 P, o74 P, o75 P, o76 P, o77 P, o78 P, o79 P, o80 P, o81 P, o82 P, o83 P, o84 P, o85 P, o88 P, o89 P, o90 P, o91 P, o92 P, o93 P, o94 P, o95 P, o96 P, o97 P, o98 P, o99 P, o100 P, o101 P, o102 P, o103 P, o104 P, o105 P, o106 P, o107 P, o108 P, o109 P, o110 P, o111 P, o112 P, o113 P, o114 P, o115 P, o118 P, o119 P, o120 P, o121 P, o122 P, o123 P, o124 P, o125 P, o126 P, o127 P, o128 P, o129 P, o130 P, o131 P, o132 P, o133 P, o134 P, o135 P, o136 P, o137 P, o138 P, o139 P, o140 P, o141 P, o142 P, o143 P, o144 P, o145 P, o148 P, o149 P, o150 P, o151 P, o152 P, o153 P, o154 P, o155 P, o156 P, o157 P, o158 P, o159 P, o160 P, o161 P, o162 P, o163 P, o164 P, o165 P, o166 P, o167 P, o168 P, o169 P, o170 P, o171 P, o172 P, o173 P, o174 P, o175 P, o178 P, o179 P, o180 P, o181 P, o182 P, o183 P, o184 P, o185 P, o186 P, o187 P, o188 P, o189 P, o190 P, o191 P, o192 P, o193 P, o194 P, o195 P, o196 P, o197 P, o198 P, o199 P, o200 P, o201 P, o202 P, o203 P, o204 P, o205 P, o208 P, o209 P, o210 P, o211 P, o212 P, o213 P, o214 P, o215 P, o216 P, o217 P, o218 P, o219 P, o220 P, o221 P, o222 P, o223 P, o224 P, o225 P, o226 P, o227 P, o228 P, o229 P, o230 P, o231 P, o232 P, o233 P, o234 P, o235 P, o238 P, o239 P, o240 P, o241 P, o242 P, o243 P, o244 P, o245 P, o246 P, o247 P, o248 P, o249 P, o250 P, o251 P, o252 P, o253 P, o254 P, o255 P, o256 P, o257 P, o258 P, o259 P, o260 P, o261 P, o262 P, o263 P, o264 P, o265 P, o266 P, o267 P, o268 P, o269 P, o270 P, o271 P, o272 P, o273 P, o274 P, o275 P, o276 P, o277 P, o278 P, o279 P, o280 P, o281 P, o282 P, o283 P, o286 P, o287 P, o288 P, o289 P, o290 P, o291 P, o292 P, o293 P, o294 P, o295 P, o296 P, o297 P, o298 P, o299 P, o300 P, o301 P, o302 P, o303 P, o304 P, o305 P, o306 P, o307 P, o308 P, o309 P, o310 P, o311 P, o312 P, o313 P, o314 P, o315 P, o316 P, o317 P, o318 P, o319 P, o320 P, o321 P, o322 P, o323 P, o324 P, o325 P, o326 P, o327 P, o328 P, o329 P, o330 P, o331 P, o332 P, o333 P, o334 P, o335 P, o336 P, o337 P, o338 P, o339 P, o340 P, o341 P, o344 P, o345 P, o346 P, o347 P, o348 P, o349 P, o350 P, o351 P, o352 P, o353 P, o354 P, o355 P, o356 P, o357 P, o358 P, o359 P, o360 P, o361 P, o362 P, o363 P, o364 P, o365 P, o366 P, o367 P, o368 P, o369 P, o370 P, o371 P, o372 P, o373 P, o374 P, o375 P, o376 P, o377 P, o378 P, o379 P, o380 P, o381 P]) life
noncomputable def cod : Code := Code.body (behindTheImports prog) env
abbrev back : List Frame := [topFrame (Pos.mk 0 0 0 0)]
noncomputable abbrev go (w : World) (n : Nat) (s : SharedT) (t : Thread) : Option (Flow × SharedT × Code × Pos) :=
  @PySem.W.Fast.tw10110043849684766642 PySem.W.Fast.tw14364793385576792824 prog w 11 (some (Value.ref 6)) 1 n s t
theorem lift {w : World} {n : Nat} {s s' : SharedT} {t : Thread} {f : Flow} {c : Code} {q : Pos} (h : go w n s t = some (f, s', c, q)) :
    segRun treeTable prog w 11 (some (Value.ref 6)) 1 n s.abs t = some (f, s'.abs, c, q) := by
  refine segRun_of ?_
  rw [PySem.W.Fast.te14364793385576792824, PySem.W.Fast.te10110043849684766642]
  exact h
theorem p47 (w : World) (os : OsState) : topGo treeTable prog w 11 (some (Value.ref 6)) 12 (Shared.mk (boot_heap w.params) gens0 boot_drawn boot_toks os) (topStub prog) = some ((Shared.mk (h46 w.params) gens0 drawn0 187 os, Thread.mk (denote treeTable cod) cod (Pos.mk 0 0 0 0) back)) := by kernel_rfl
theorem p49 (w : World) (os : OsState) : segRun treeTable prog w 11 (some (Value.ref 6)) 1 1 (Shared.mk (h46 w.params) gens0 drawn0 187 os) (blockOf (behindTheImports prog) env cod (Pos.mk 0 0 0 0) back) = some ((Flow.next, (SharedT.abs (SharedT.mk (t47 w.params) 15 life gens0 drawn0 187 os), (cod, Pos.mk 0 0 0 0)))) := by kernel_rfl
theorem p86 (w : World) (os : OsState) : go w 292 (SharedT.mk (t47 w.params) 15 life gens0 drawn0 187 os) (piecesOf ((gr 0 3)) env cod (Pos.mk 0 0 0 0) back) = some ((Flow.next, (SharedT.mk (t85 w.params) 50 life gens0 drawn0 232 os, (cod, Pos.mk 5 0 11 16)))) := by kernel_rfl
theorem p116 (w : World) (os : OsState) : go w 256 (SharedT.mk (t85 w.params) 50 life gens0 drawn0 232 os) (piecesOf ((gr 3 1)) env cod (Pos.mk 5 0 11 16) back) = some ((Flow.next, (SharedT.mk (t115 w.params) 78 life gens0 drawn0 270 os, (cod, Pos.mk 12 0 19 16)))) := by kernel_rfl
theorem p146 (w : World) (os : OsState) : go w 258 (SharedT.mk (t115 w.params) 78 life gens0 drawn0 270 os) (piecesOf ((gr 4 1)) env cod (Pos.mk 12 0 19 16) back) = some ((Flow.next, (SharedT.mk (t145 w.params) 106 life gens0 drawn0 310 os, (cod, Pos.mk 20 0 28 16)))) := by kernel_rfl
theorem p176 (w : World) (os : OsState) : go w 254 (SharedT.mk (t145 w.params) 106 life gens0 drawn0 310 os) (piecesOf ((gr 5 1)) env cod (Pos.mk 20 0 28 16) back) = some ((Flow.next, (SharedT.mk (t175 w.params) 134 life gens0 drawn0 346 os, (cod, Pos.mk 29 0 35 16)))) := by kernel_rfl
theorem p206 (w : World) (os : OsState) : go w 256 (SharedT.mk (t175 w.params) 134 life gens0 drawn0 346 os) (piecesOf ((gr 6 1)) env cod (Pos.mk 29 0 35 16) back) = some ((Flow.next, (SharedT.mk (t205 w.params) 162 life gens0 drawn0 384 os, (cod, Pos.mk 36 0 43 16)))) := by kernel_rfl
theorem p236 (w : World) (os : OsState) : go w 256 (SharedT.mk (t205 w.params) 162 life gens0 drawn0 384 os) (piecesOf ((gr 7 1)) env cod (Pos.mk 36 0 43 16) back) = some ((Flow.next, (SharedT.mk (t235 w.params) 190 life gens0 drawn0 422 os, (cod, Pos.mk 44 0 51 16)))) := by kernel_rfl
theorem p284 (w : World) (os : OsState) : go w 386 (SharedT.mk (t235 w.params) 190 life gens0 drawn0 422 os) (piecesOf ((gr 8 8)) env cod (Pos.mk 44 0 51 16) back) = some ((Flow.next, (SharedT.mk (t283 w.params) 236 life gens0 drawn0 495 os, (cod, Pos.mk 76 0 77 103)))) := by kernel_rfl
theorem p342 (w : World) (os : OsState) : go w 397 (SharedT.mk (t283 w.params) 236 life gens0 drawn0 495 os) (piecesOf ((gr 16 8)) env cod (Pos.mk 76 0 77 103) back) = some ((Flow.next, (SharedT.mk (t341 w.params) 292 life gens0 drawn0 574 os, (cod, Pos.mk 105 0 111 66)))) := by kernel_rfl
theorem p382 (w : World) (os : OsState) : go w 183 (SharedT.mk (t341 w.params) 292 life gens0 drawn0 574 os) (piecesOf ((gr 24 6)) env cod (Pos.mk 105 0 111 66) back) = some ((Flow.next, (SharedT.mk (t381 w.params) 330 life gens0 drawn0 628 os, (cod, Pos.mk 137 0 149 38)))) := by kernel_rfl
theorem p384 (w : World) (os : OsState) : topRun treeTable prog w 11 (some (Value.ref 6)) 2 (SharedT.abs (SharedT.mk (t381 w.params) 330 life gens0 drawn0 628 os)) (Thread.mk (doneF Flow.next) cod (Pos.mk 137 0 149 38) back) = some (Shared.mk (h382 w.params) gens0 drawn0 628 os) := by kernel_rfl
theorem body_eq : behindTheImports prog = (gr 0 3 ++ (gr 3 1 ++ (gr 4 1 ++ (gr 5 1 ++ (gr 6 1 ++ (gr 7 1 ++ (gr 8 8 ++ (gr 16 8 ++ (gr 24 6 ++ ([] : List Stmt)))))))))) := by kernel_rfl
theorem run (w : World) (os : OsState) : topRun treeTable prog w 11 (some (Value.ref 6)) (12 + (1 + (292 + (256 + (258 + (254 + (256 + (256 + (386 + (397 + (183 + 2))))))))))) (Shared.mk (boot_heap w.params) gens0 boot_drawn boot_toks os) (topStub prog) = some (Shared.mk (h382 w.params) gens0 drawn0 628 os) := by
  refine go_top (p47 w os) (piece_block (p49 w os) ?_)
  rw [show restOf (behindTheImports prog) env cod (Pos.mk 0 0 0 0) back = restOf (gr 0 3 ++ (gr 3 1 ++ (gr 4 1 ++ (gr 5 1 ++ (gr 6 1 ++ (gr 7 1 ++ (gr 8 8 ++ (gr 16 8 ++ (gr 24 6 ++ ([] : List Stmt)))))))))) env cod (Pos.mk 0 0 0 0) back from congrArg (fun b => restOf b env cod (Pos.mk 0 0 0 0) back) body_eq]
  exact (piece_app (lift (p86 w os)) (piece_app (lift (p116 w os)) (piece_app (lift (p146 w os)) (piece_app (lift (p176 w os)) (piece_app (lift (p206 w os)) (piece_app (lift (p236 w os)) (piece_app (lift (p284 w os)) (piece_app (lift (p342 w os)) (piece_app (lift (p382 w os)) (piece_nil (p384 w os)))))))))))
theorem size (w : World) : ((boot_heap w.params).isNs mainGlobals && gens0.size == 0, (boot_heap w.params).objs.size, (boot_heap w.params).nsMap mainGlobals "__annotations__") = (true, 11, some (Value.ref 6)) := by kernel_rfl
abbrev mods : List Str := []
theorem left {q : Program} {loose : List Str} {Xt : Shared → Bool} {α : Type} {Yf : Shared → α} {Ya : World → α} {g0 : Bool}
    (looks : ∀ w : World, (fun os => ((staticsOk mods (boot_heap w.params) (h382 w.params) && namesBound prog (h382 w.params) && gensDone ⟨h382 w.params, gens0, drawn0, 628, os⟩ && laidKept (boot_heap w.params) (h382 w.params)),
        openSeen q loose mods Xt g0 ⟨h382 w.params, gens0, drawn0, 628, os⟩, Yf ⟨h382 w.params, gens0, drawn0, 628, os⟩)) = fun _ => (true, openGood q loose, Ya w)) :
    LeftO prog q loose Xt Yf Ya 5184 g0 := by
  have key : ∀ {l : List Str}, mods = l → ∀ w : World, (fun os => ((staticsOk l (boot_heap w.params) (h382 w.params) && namesBound prog (h382 w.params) && gensDone ⟨h382 w.params, gens0, drawn0, 628, os⟩ && laidKept (boot_heap w.params) (h382 w.params)),
        openSeen q loose l Xt g0 ⟨h382 w.params, gens0, drawn0, 628, os⟩, Yf ⟨h382 w.params, gens0, drawn0, 628, os⟩)) = fun _ => (true, openGood q loose, Ya w) := by
    intro l e
    subst e
    exact looks
  exact LeftO.of_pieces (boot_open (by kernel_rfl) (by kernel_rfl) (fun s => by kernel_rfl)) size run (by kernel_rfl) (key (by kernel_rfl))
end Mine.Top
namespace Mine
def view_39 : Program := { PySem.Challenge.pw_xm0657_01 with main := { PySem.Challenge.pw_xm0657_01.main with body := (((PySem.Challenge.pw_xm0657_01.main.body.eraseIdx 19).eraseIdx 17).eraseIdx 9).eraseIdx 1 } }
namespace Top
noncomputable abbrev fin_ (w : World) (os : OsState) : Shared := Shared.mk (h382 w.params) gens0 drawn0 628 os
abbrev V : Program := view_39
theorem lA (w : World) (os : OsState) : (staticsOk mods (boot_heap w.params) (h382 w.params) && namesBound prog (h382 w.params) && gensDone (fin_ w os) && laidKept (boot_heap w.params) (h382 w.params)) = true := by kernel_rfl
theorem l1 (w : World) (os : OsState) : seen ((recsOf V).map (·.name)) (ownsOf V) [] { fin_ w os with gens := #[] } = expectedOf V := by kernel_rfl
theorem l2 (w : World) (os : OsState) : (fin_ w os).heap.bltView = bltViewBooted := by kernel_rfl
theorem l3 (w : World) (os : OsState) : (fin_ w os).heap.keysOk (looseW V []) ((recsOf V).map (·.name)) ((litsOf V).map (·.1)) ((clssOf V (looseW V [])).map (·.name)) = true := by kernel_rfl
theorem l4 (w : World) (os : OsState) : (fin_ w os).heap.accountedOkI mods = true := by kernel_rfl
theorem l4a (w : World) (os : OsState) : (fin_ w os).heap.isNs mainGlobals = true := by kernel_rfl
theorem l4b (w : World) (os : OsState) : (fin_ w os).heap.isNs builtinsNs = true := by kernel_rfl
theorem l4c (w : World) (os : OsState) : tablesOk V (fin_ w os).heap = true := by kernel_rfl
theorem l5 (w : World) (os : OsState) : (xlAt Mine.view_39 [] (fin_ w os) && recOk (RowW.records (OpenRow.toRowW (OpenLaw.row PySem.Challenge.rw_xm0657_01))) (fin_ w os)) = true := by kernel_rfl
theorem l6 (w : World) (os : OsState) : tabsOk V (fin_ w os) = true := by kernel_rfl
theorem l7 (w : World) (os : OsState) : pinSeenD V (drecsOf V) (fin_ w os) = pinGoodD (drecsOf V) := by kernel_rfl
theorem l8 (w : World) (os : OsState) : plainSeenE V (looseW V []) (fin_ w os) = plainGoodE V (looseW V []) := by kernel_rfl
theorem l9 (w : World) (os : OsState) : plainSeenD V [] (fin_ w os) = plainGoodD V [] := by kernel_rfl
theorem l10 (w : World) (os : OsState) : wideSeen V (fin_ w os) = wideGood V := by kernel_rfl
theorem l11 (w : World) (os : OsState) : clsSeenW V [] (fin_ w os) = clsGoodW V [] := by kernel_rfl
abbrev Xt : Shared → Bool := fun s => xlAt Mine.view_39 [] s && recOk (RowW.records (OpenRow.toRowW (OpenLaw.row PySem.Challenge.rw_xm0657_01))) s
theorem lO (w : World) (os : OsState) : openSeen V [] mods Xt true (fin_ w os) = openGood V [] := by
  unfold openSeen openGood
  exact congr (congrArg Prod.mk (l1 w os)) (congr (congrArg Prod.mk (l2 w os)) (congr (congrArg Prod.mk (look_both (look_both (look_both (look_both (look_both (look_both (l3 w os) (l4 w os)) (l4a w os)) (l4b w os)) (l4c w os)) (l5 w os)) rfl))
    (congr (congrArg Prod.mk (l6 w os)) (congr (congrArg Prod.mk (l7 w os)) (congr (congrArg Prod.mk (l8 w os)) (congr (congrArg Prod.mk (l9 w os)) (congr (congrArg Prod.mk (l10 w os)) (l11 w os))))))))
theorem leftV {α : Type} {Yf : Shared → α} {Ya : World → α} (h : ∀ (w : World) (os : OsState), Yf (fin_ w os) = Ya w) : LeftO prog view_39 [] Xt Yf Ya 5184 true :=
  left fun w => funext fun os => congr (congrArg Prod.mk (lA w os)) (congr (congrArg Prod.mk (lO w os)) (h w os))
end Top
end Mine
set_option hygiene false in
local macro_rules | `(tactic| o_head $H:term) => `(tactic| (refine holds_open (q := Mine.view_39) (loose := []) (Xt := Mine.Top.Xt) (XP := XL Mine.view_39 []) (Yf := Hook.obs $H) (Ya := Hook.val $H) (YP := Hook.says $H) (N := 5184) ?hl (Hook.of $H) (Hook.keeps $H) (fun s e => xl_of s (Bool.and_eq_true_iff.mp e).1) XL.keeps (by rfl) (by rfl) (by rfl) (fun s e => recFacts_of (Bool.and_eq_true_iff.mp e).2) (by rfl) (by first | assumption | decide +kernel) (by decide +kernel) ⟨rfl, rfl, rfl, rfl, rfl, by decide +kernel⟩ ?hw ?hc; (case hl => (refine Mine.Top.leftV ?_; intro w os; kernel_rfl))))
namespace Mine
open_top hd for PySem.Challenge.rw_xm0657_01
end Mine
namespace Mine
theorem clear_take : True := by w_top off; k_with_none; trivial
section
variable {prog : Program} {w : World} {p : Program} {loose : List Str} {mean : ExcName → Option Value} {mg mb : Str → Option Value}
  {dp un : Nat} {gd : Option (List Code)} {cn : Str} {cs : Scope} {a : Addr} {ccd : Value} {cl : List (Str × Addr)} {outer : List Env} {A₀ : Around} {base h₀ : Heap} {L : Addr} {m : Str → Option Value} {news : List (Addr × Obj)} {s : Shared} {Q E : Value → Shared → Prop}
local macro_rules | `(tactic| walk_at "none at all") => `(tactic| fail)
local macro_rules | `(tactic| k_all) => `(tactic| assumption)
theorem pick0 {x y : Int} : [x, y].getD (Int.toNat 0) 0 = x := rfl
theorem pick1 {x y : Int} : [x, y].getD (Int.toNat 1) 0 = y := rfl
theorem fm {a : Int} {b : Int} (h : 0 < b) : 0 ≤ a.fmod b ∧ a.fmod b < b := ⟨Int.fmod_nonneg_of_pos _ h, Int.fmod_lt_of_pos _ h⟩
theorem lcg {y : Int} : 0 ≤ (y * 39373 + 7).fmod 2147483647 ∧ (y * 39373 + 7).fmod 2147483647 < 2147483647 := fm (by decide)
theorem lcgBits {x y : Int} : Builtin.Int.intBits ([x, (y * 39373 + 7).fmod 2147483647].getD (Int.toNat 1) 0) ≤ 64 := by
  have h := lcg (y := y)
  exact PySem.intBits_le_64 (k := (y * 39373 + 7).fmod 2147483647) (by omega) (by omega)
local macro_rules | `(tactic| mul_fits) => `(tactic| exact PySem.IntMulOk.of_right lcgBits)
theorem take_c {src : Addr} {n : Nat} {x y top : Int} {tx ty tt : Tok}
    (B : Below A₀ base outer h₀) (F : Fr h₀ L s.heap m) (X : (hd.heap_39 w.params).In h₀) (N : News h₀ L s.heap ((src, listOf #[.int x tx, .int y ty] n) :: news)) (T : Top p loose mean mg mb h₀) (hk : cs.kind = .function)
    (hne : ∀ p ∈ news, p.1 ≠ src) (hx0 : 0 ≤ x) (hy0 : 0 ≤ y) (hy1 : y < 2147483647) (ht0 : 0 < top) (ht1 : top < 100)
    (hd : dp + 1 < recursionLimit) (hu : un + 8 < cLine)
    (hret : ∀ (d : Int) (td : Tok) (x' y' : Int) (tx' ty' : Tok) (h' : Heap) (tk' : Nat), 0 ≤ d → d < top → 0 ≤ x' → 0 ≤ y' → y' < 2147483647 → Fr h₀ L h' m → News h₀ L h' ((src, listOf #[.int x' tx', .int y' ty'] n) :: news) →
      Q (.int d td) { s with heap := h', toks := tk' }) :
    wpAny (model prog w) (ktrTop dp un gd cn cs L a ccd cl outer) (call (.ref 277) [.ref src, .int top tt]) Q E s := by
  refine wpAny_call ?_
  k_dflt ktr_enter
  k_steps
  · exact hret _ _ _ _ _ _ _ _ (fm ht0).1 (fm ht0).2 (Int.fdiv_nonneg hx0 (Int.le_of_lt ht0)) hy0 hy1 (by assumption) (by assumption)
  · exact hret _ _ _ _ _ _ _ _ (fm ht0).1 (fm ht0).2 hx0 lcg.1 lcg.2 (by assumption) (by assumption)

theorem upd_mem {d : Addr} {o o' : Obj} {l l' : List (Addr × Obj)} (U : Upd d o o' l l') : (d, o) ∈ l ∧ ∀ q ∈ l', q = (d, o') ∨ (q ∈ l ∧ q.1 ≠ d) := by
  obtain ⟨pre, post, rfl, rfl, h1, h2⟩ := U.split
  refine ⟨by simp, fun q hq => ?_⟩
  rcases List.mem_append.mp hq with hq | hq
  · exact .inr ⟨List.mem_append_left _ hq, h1 q hq⟩
  · rcases List.mem_cons.mp hq with rfl | hq
    · exact .inl rfl
    · exact .inr ⟨List.mem_append_right _ (.tail _ hq), h2 q hq⟩
theorem news_slot {h₀ h : Heap} {L d : Addr} {o o' : Obj} {l l' : List (Addr × Obj)} (U : Upd d o o' l l') (N : News h₀ L h ((d, o') :: l.filter (fun q => q.1 != d))) : News h₀ L h l' := fun q hq => by
  rcases (upd_mem U).2 q hq with rfl | ⟨h1, h2⟩
  · exact N _ (.head _)
  · exact N _ (.tail _ (List.mem_filter.mpr ⟨h1, by simpa using h2⟩))
theorem news_take {h₀ h : Heap} {L d : Addr} {o o' : Obj} {l l' : List (Addr × Obj)} (U : Upd d o o' l l') (N : News h₀ L h l) : News h₀ L h ((d, o) :: l.filter (fun q => q.1 != d)) := fun q hq => by
  rcases List.mem_cons.mp hq with rfl | hq
  · exact N _ (upd_mem U).1
  · exact N _ (List.mem_filter.mp hq).1
abbrev srcO (x y : Int) (tx ty : Tok) (n : Nat) : Obj := listOf #[.int x tx, .int y ty] n
theorem take_u {src : Addr} {n : Nat} {x y top : Int} {tx ty tt : Tok} {f : Obj → List (Addr × Obj)}
    (B : Below A₀ base outer h₀) (F : Fr h₀ L s.heap m) (X : (hd.heap_39 w.params).In h₀) (N : News h₀ L s.heap news) (T : Top p loose mean mg mb h₀) (hk : cs.kind = .function)
    (U : ∀ o', Upd src (srcO x y tx ty n) o' news (f o')) (hx0 : 0 ≤ x) (hy0 : 0 ≤ y) (hy1 : y < 2147483647) (ht0 : 0 < top) (ht1 : top < 100)
    (hd : dp + 1 < recursionLimit) (hu : un + 8 < cLine)
    (hret : ∀ (d : Int) (td : Tok) (x' y' : Int) (tx' ty' : Tok) (h' : Heap) (tk' : Nat), 0 ≤ d → d < top → 0 ≤ x' → 0 ≤ y' → y' < 2147483647 → Fr h₀ L h' m → News h₀ L h' (f (srcO x' y' tx' ty' n)) →
      Q (.int d td) { s with heap := h', toks := tk' }) :
    wpAny (model prog w) (ktrTop dp un gd cn cs L a ccd cl outer) (call (.ref 277) [.ref src, .int top tt]) Q E s :=
  take_c B F X (news_take (U default) N) T hk (fun q hq => by simpa using (List.mem_filter.mp hq).2) hx0 hy0 hy1 ht0 ht1 hd hu
    fun d td x' y' tx' ty' h' tk' h1 h2 h3 h4 h5 F' N' => hret d td x' y' tx' ty' h' tk' h1 h2 h3 h4 h5 F' (news_slot (U _) N')
end
end Mine
namespace Mine
theorem clear_expr : True := by w_top off; k_with_none; trivial
section
variable {prog : Program} {w : World} {p : Program} {loose : List Str} {mean : ExcName → Option Value} {mg mb : Str → Option Value}
  {dp un : Nat} {gd : Option (List Code)} {cn : Str} {cs : Scope} {a : Addr} {ccd : Value} {cl : List (Str × Addr)} {outer : List Env} {A₀ : Around} {base h₀ : Heap} {L : Addr} {m : Str → Option Value} {news : List (Addr × Obj)} {s : Shared} {Q E : Value → Shared → Prop}
local macro_rules | `(tactic| walk_at "none at all") => `(tactic| fail)
local macro_rules | `(tactic| k_room) => `(tactic| ktr_room)
local macro_rules | `(tactic| k_units) => `(tactic| ktr_units)
local macro_rules | `(tactic| k_all) => `(tactic| assumption)
local macro_rules | `(tactic| walk_at "call ref") => `(tactic| (k_here; (show wpAny _ _ (call (Value.ref 277) _) _ _ _); k_dflt (
  refine' take_u ?k1 ?k2 ?k3 ?k4 ?k5 ?k6 ?k7 ?k8 ?k9 ?k10 ?k11 ?k12 ?k13 ?k14 ?_; (case k1 => k_asm); (case k2 => k_asm); (case k3 => k_asm); (case k4 => k_asm); (case k5 => k_asm); (case k6 => first | exact rfl | assumption);
  (case k7 => (intro o9; k_upd)); (case k8 => k_asm); (case k9 => k_asm); (case k10 => k_asm); (case k11 => first | decide | omega); (case k12 => first | decide | omega); (case k13 => ktr_room); (case k14 => ktr_units); k_whole); intro d' td' x' y' tx' ty' h' tk' hd0' hd1' hx0' hy0' hy1' F' N'; (try dsimp only at N'); (try dsimp only); (try k_sweep); (try k_fold)))
abbrev binD (P : Params) (o : Str) (t0 t1 t2 t3 : Tok) (l r : Value) : Obj :=
  dictOf [⟨PyData.keyHash P "op", .str "op" t1, .str o t0⟩, ⟨PyData.keyHash P "left", .str "left" t2, l⟩, ⟨PyData.keyHash P "right", .str "right" t3, r⟩] 3
def LeafC (P : Params) (C : Addr) (od : Obj) : Prop := C = 45 ∨ C = 73 ∨ C = 129 ∨ C = 157 ∨ C = 185 ∨ (C = 101 ∧ ∃ t0 t1 t2 t3 l r, od = binD P "+" t0 t1 t2 t3 l r)
theorem news3 {h₀ h : Heap} {L : Addr} {all news : List (Addr × Obj)} {p1 p2 p3 : Addr × Obj} (N : News h₀ L h all) (h1 : p1 ∈ all) (h2 : p2 ∈ all) (h3 : p3 ∈ all) (h4 : ∀ q ∈ news, q ∈ all) : News h₀ L h (p1 :: p2 :: p3 :: news) := fun q hq => by
  rcases List.mem_cons.mp hq with rfl | hq
  · exact N _ h1
  · rcases List.mem_cons.mp hq with rfl | hq
    · exact N _ h2
    · rcases List.mem_cons.mp hq with rfl | hq
      · exact N _ h3
      · exact N _ (h4 _ hq)
theorem expr_c {src : Addr} {n : Nat} {x y : Int} {tx ty : Tok}
    (B : Below A₀ base outer h₀) (F : Fr h₀ L s.heap m) (X : (hd.heap_39 w.params).In h₀) (N : News h₀ L s.heap ((src, srcO x y tx ty n) :: news)) (T : Top p loose mean mg mb h₀) (hk : cs.kind = .function)
    (hne : ∀ p ∈ news, p.1 ≠ src) (hx0 : 0 ≤ x) (hy0 : 0 ≤ y) (hy1 : y < 2147483647)
    (hd : dp + 3 < recursionLimit) (hu : un + 32 < cLine)
    (hret : ∀ (e dx C : Addr) (od : Obj) (x' y' : Int) (tx' ty' : Tok) (h' : Heap) (tk' : Nat), 0 ≤ x' → 0 ≤ y' → y' < 2147483647 → Fr h₀ L h' m → News h₀ L h' ((e, instObj C dx) :: (dx, od) :: (src, srcO x' y' tx' ty' n) :: news) →
      LeafC w.params C od → AllLt dx news → @LT.lt Nat _ src dx → @LT.lt Nat _ dx e → Q (.ref e) { s with heap := h', toks := tk' }) :
    wpAny (model prog w) (ktrTop dp un gd cn cs L a ccd cl outer) (call (.ref 291) [.ref src]) Q E s := by
  refine wpAny_call ?_
  k_dflt ktr_enter
  k_steps
  all_goals (
    refine' hret _ _ _ _ _ _ _ _ _ _ ?a1 ?a2 ?a3 ?a4 (news3 ?b1 ?b2 ?b3 ?b4 ?b5) ?a5 ?a6 ?a7 ?a8
    (case b1 => k_asm)
    (case b2 => k_mem)
    (case b3 => k_mem)
    (case b4 => k_mem)
    (case a1 => assumption)
    (case a2 => assumption)
    (case a3 => assumption)
    (case a4 => assumption)
    (case b5 => (intro q hq; (repeat (first | exact hq | refine List.Mem.tail _ ?_))))
    (case a5 => first | exact .inl rfl | exact .inr (.inl rfl) | exact .inr (.inr (.inl rfl)) | exact .inr (.inr (.inr (.inl rfl))) | exact .inr (.inr (.inr (.inr (.inl rfl)))) | exact .inr (.inr (.inr (.inr (.inr ⟨rfl, _, _, _, _, _, _, rfl⟩)))))
    (case a6 => tbn_find)
    (case a7 => omega)
    (case a8 => omega))
end
end Mine
namespace Mine
def Leaf (P : Params) (nw : List (Addr × Obj)) (v : Value) : Prop := ∃ e dx C od, v = .ref e ∧ (e, instObj C dx) ∈ nw ∧ (dx, od) ∈ nw ∧ LeafC P C od
inductive TreeIn (P : Params) (nw : List (Addr × Obj)) : Value → List Value → Prop
  | leaf {v : Value} : Leaf P nw v → TreeIn P nw v [v]
  | node {a d : Addr} {t0 t1 t2 t3 : Tok} {l r : Value} {xs ys : List Value} : (a, instObj 101 d) ∈ nw → (d, binD P "|" t0 t1 t2 t3 l r) ∈ nw → TreeIn P nw l xs → TreeIn P nw r ys → TreeIn P nw (.ref a) (xs ++ ys)
inductive Trees (P : Params) (nw : List (Addr × Obj)) : List Value → List Value → Prop
  | nil : Trees P nw [] []
  | cons {v : Value} {vs xs ys : List Value} : TreeIn P nw v xs → Trees P nw vs ys → Trees P nw (v :: vs) (xs ++ ys)
theorem Leaf.mono {P : Params} {nw nw' : List (Addr × Obj)} {v : Value} (h : Leaf P nw v) (hs : ∀ q ∈ nw, q ∈ nw') : Leaf P nw' v :=
  let ⟨e, dx, C, od, h1, h2, h3, h4⟩ := h; ⟨e, dx, C, od, h1, hs _ h2, hs _ h3, h4⟩
theorem TreeIn.mono {P : Params} {nw nw' : List (Addr × Obj)} {v : Value} {xs : List Value} (h : TreeIn P nw v xs) (hs : ∀ q ∈ nw, q ∈ nw') : TreeIn P nw' v xs := by
  induction h with
  | leaf h => exact .leaf (h.mono hs)
  | node h1 h2 _ _ i1 i2 => exact .node (hs _ h1) (hs _ h2) i1 i2
theorem Trees.mono {P : Params} {nw nw' : List (Addr × Obj)} {vs xs : List Value} (h : Trees P nw vs xs) (hs : ∀ q ∈ nw, q ∈ nw') : Trees P nw' vs xs := by
  induction h with
  | nil => exact .nil
  | cons h _ ih => exact .cons (h.mono hs) ih
theorem TreeIn.pos {P : Params} {nw : List (Addr × Obj)} {v : Value} {xs : List Value} (h : TreeIn P nw v xs) : 1 ≤ xs.length := by
  induction h with
  | leaf => exact Nat.le_refl _
  | node _ _ _ _ i1 i2 => rw [List.length_append]; omega
theorem Trees.ofLeaves {P : Params} {nw : List (Addr × Obj)} : ∀ {vs : List Value}, (∀ v ∈ vs, Leaf P nw v) → Trees P nw vs vs
  | [], _ => .nil
  | v :: vs, h => Trees.cons (xs := [v]) (.leaf (h v (.head _))) (Trees.ofLeaves fun u hu => h u (.tail _ hu))
theorem Trees.merge {P : Params} {nw : List (Addr × Obj)} {a d : Addr} {t0 t1 t2 t3 : Tok} {l r : Value} {vs : List Value} (h1 : (a, instObj 101 d) ∈ nw) (h2 : (d, binD P "|" t0 t1 t2 t3 l r) ∈ nw) :
    ∀ {us xs : List Value}, Trees P nw (us ++ l :: r :: vs) xs → Trees P nw (us ++ .ref a :: vs) xs
  | [], xs, h => by
    cases h with
    | cons hl h => cases h with
      | cons hr h =>
        rw [← List.append_assoc]
        exact .cons (.node h1 h2 hl hr) h
  | u :: us, xs, h => by
    cases h with
    | cons hl h => exact .cons hl (Trees.merge h1 h2 h)
theorem Trees.one {P : Params} {nw : List (Addr × Obj)} {v : Value} {xs : List Value} (h : Trees P nw [v] xs) : TreeIn P nw v xs := by
  cases h with
  | cons h1 h2 => cases h2; rw [List.append_nil]; exact h1
theorem Trees.append {P : Params} {nw : List (Addr × Obj)} {vs ws xs ys : List Value} (h1 : Trees P nw vs xs) (h2 : Trees P nw ws ys) : Trees P nw (vs ++ ws) (xs ++ ys) := by
  induction h1 with
  | nil => exact h2
  | cons h _ ih => rw [List.append_assoc]; exact .cons h ih
end Mine
namespace Mine
theorem clear_join : True := by w_top off; k_with_none; trivial
section
variable {prog : Program} {w : World} {p : Program} {loose : List Str} {mean : ExcName → Option Value} {mg mb : Str → Option Value}
  {dp un : Nat} {gd : Option (List Code)} {cn : Str} {cs : Scope} {a : Addr} {ccd : Value} {cl : List (Str × Addr)} {outer : List Env} {A₀ : Around} {base h₀ : Heap} {L : Addr} {m : Str → Option Value} {news : List (Addr × Obj)} {s : Shared} {Q E : Value → Shared → Prop}
local macro_rules | `(tactic| k_room) => `(tactic| ktr_room)
local macro_rules | `(tactic| k_units) => `(tactic| ktr_units)
local macro_rules | `(tactic| k_all) => `(tactic| assumption)
local macro_rules | `(tactic| walk_at "call ref") => `(tactic| (k_here; (show wpAny _ _ (call (Value.ref 277) _) _ _ _); k_dflt (
  refine' take_u ?k1 ?k2 ?k3 ?k4 ?k5 ?k6 ?k7 ?k8 ?k9 ?k10 ?k11 ?k12 ?k13 ?k14 ?_; (case k1 => k_asm); (case k2 => k_asm); (case k3 => k_asm); (case k4 => k_asm); (case k5 => k_asm); (case k6 => first | exact rfl | assumption);
  (case k7 => (intro o9; k_upd)); (case k8 => k_asm); (case k9 => k_asm); (case k10 => k_asm); (case k11 => first | decide | omega); (case k12 => first | decide | omega); (case k13 => ktr_room); (case k14 => ktr_units); k_whole); intro d' td' x' y' tx' ty' h' tk' hd0' hd1' hx0' hy0' hy1' F' N'; (try dsimp only at N'); (try dsimp only); (try k_sweep); (try k_fold)))
theorem frame2 {m₁ : Str → Option Value} {a b : Str} {vb : Option Value} (m₀ : Str → Option Value) (hb : m₁ b = vb) (h : ∀ z, z ≠ a → z ≠ b → m₁ z = m₀ z) : m₁ = fun z => if z = a then m₁ a else if z = b then vb else m₀ z := by
  funext z
  by_cases h1 : z = a
  · rw [if_pos h1, h1]
  · rw [if_neg h1]
    by_cases h2 : z = b
    · rw [if_pos h2, h2, hb]
    · rw [if_neg h2]; exact h z h1 h2
theorem news_swap {h₀ h : Heap} {L : Addr} {p1 p2 : Addr × Obj} {r : List (Addr × Obj)} (N : News h₀ L h (p1 :: p2 :: r)) : News h₀ L h (p2 :: p1 :: r) := fun q hq => by
  rcases List.mem_cons.mp hq with rfl | hq
  · exact N _ (.tail _ (.head _))
  · rcases List.mem_cons.mp hq with rfl | hq
    · exact N _ (.head _)
    · exact N _ (.tail _ (.tail _ hq))
theorem pick_upto {vs : List Value} {y : Int} (h : 0 ≤ y) : (slicePick vs.toArray none (some y) none).toList = vs.take y.toNat := by
  have e : sliceBounds none (some y) none vs.toArray.size = (((0 : Nat) : Int), ((min y.toNat vs.toArray.size : Nat) : Int), 1) := by
    simp only [sliceBounds, Option.getD_none, show (1 : Int) > 0 by decide, if_true, if_neg (show ¬ (y < 0) by omega)]
    congr 1
    congr 1
    omega
  rw [kmk_pick_nat _ e]
  show ((vs.drop 0).take (min y.toNat vs.toArray.size - 0)) = _
  rw [List.drop_zero, Nat.sub_zero, List.size_toArray, kmk_take_min]
theorem pick_from {vs : List Value} {x : Int} (h : 0 ≤ x) : (slicePick vs.toArray (some x) none none).toList = vs.drop x.toNat := by
  have e : sliceBounds (some x) none none vs.toArray.size = (((min x.toNat vs.toArray.size : Nat) : Int), ((vs.toArray.size : Nat) : Int), 1) := by
    simp only [sliceBounds, Option.getD_none, show (1 : Int) > 0 by decide, if_true, if_neg (show ¬ (x < 0) by omega)]
    congr 1
    omega
  rw [kmk_pick_nat _ e]
  show ((vs.drop (min x.toNat vs.toArray.size)).take (vs.toArray.size - min x.toNat vs.toArray.size)) = _
  rw [List.size_toArray, kmk_drop_min]
  apply List.take_of_length_le
  rw [List.length_drop]
  omega
theorem getD_some {vs : List Value} {k : Int} (h0 : 0 ≤ k) (h1 : k < vs.length) : vs[k.toNat]? = some (vs.getD k.toNat .none) := by
  rw [List.getD_eq_getElem?_getD, List.getElem?_eq_getElem (by omega)]
  rfl
theorem len_v {A : Around} {E : Value → Shared → Prop} {s : Shared} {l : Addr} {vs : List Value} {Q : Value → Shared → Prop} (hl : s.heap.IsList l vs.toArray) (hz : vs.length < 2 ^ 62) (h : Q (.int (vs.length : Int) (s.toks + 1)) { s with toks := s.toks + 1 + 1 }) :
    wpAny (model prog w) A (call (.builtin "len") [.ref l]) Q E s :=
  len_list hl (by rw [List.size_toArray]; omega) h
local macro_rules | `(tactic| walk_at "call builtin:len") => `(tactic| (k_here; (with_reducible show wpAny _ _ (call (Value.builtin "len") [Value.ref _]) _ _ _); k_dflt (refine' len_v ?k1 ?k2 ?_; (case k1 => kmk_list); (case k2 => omega); k_whole)))
theorem add_e {X Y : List Value} : X.toArray.toList ++ Y.toArray.toList = X ++ Y := rfl
local macro_rules | `(tactic| walk_at "subscriptTail Name Slice ref ref") => `(tactic| (k_here; (with_reducible show wpAny _ _ (subscriptTail _ (PySem.Expr.Slice _ _ none _) (Value.ref _) (Value.ref _)) _ _ _); k_dflt (refine' kmk_slice_lit ?F ?N ?l ?p ?q ?e ?_ ?s ?t ?z; (case F => k_asm); (case N => k_asm); (case l => kmk_list); (case p => kmk_part); (case q => kmk_part); (case e => first | exact pick_upto (by omega) | exact pick_from (by omega)); (case s => with_unfolding_all rfl); (case t => kmk_pure); (case z => (rw [List.size_toArray, sizeLine_eq]; omega))); intro D' h' F' N' l1; (try k_lt l1); (try k_sweep)))
local macro_rules | `(tactic| walk_at "subscriptTail") => `(tactic| (k_here; (with_reducible show wpAny _ _ (subscriptTail _ _ (Value.ref _) (Value.int _ _)) _ _ _); (with_unfolding_all refine' item_litK ?k1 ?k2 ?k3 ?k4 ?_ ?k6; (case k1 => kmk_list); (case k2 => first | decide | omega); (case k3 => first | decide | omega); (case k4 => exact getD_some (by first | decide | omega) (by first | decide | omega)); (case k6 => with_unfolding_all rfl); k_whole)))
local macro_rules | `(tactic| walk_at "binaryOp Add ref ref") => `(tactic| (k_here; (with_reducible show wpAny _ _ (binaryOp _ (Value.ref _) (Value.ref _)) _ _ _); k_dflt (refine' kmk_add_lit ?F ?N ?a ?b ?e ?_ ?z; (case F => k_asm); (case N => k_asm); (case a => kmk_list); (case b => kmk_list); (case e => exact add_e); (case z => (simp only [List.length_append, List.length_take, List.length_drop, List.length_cons, List.length_nil]; rw [sizeLine_eq]; omega))); intro D' h' F' N' l1; (try k_lt l1); (try k_sweep)))
def JoinJ (P : Params) (vs : List Value) (news : List (Addr × Obj)) (src : Addr) (n : Nat) (m₀ : Str → Option Value) (k : Nat) (m₁ : Str → Option Value) (nw : List (Addr × Obj)) : Prop :=
  ∃ (l : Addr) (c : Nat) (ws : List Value) (x y : Int) (tx ty : Tok) (rest : List (Addr × Obj)) (u : Option Value), nw = (src, srcO x y tx ty n) :: (l, listOf ws.toArray c) :: rest ∧
    m₁ = (fun z => if z = Str.ofString "at" then u else if z = Str.ofString "left" then some (.ref l) else m₀ z) ∧ k = ws.length ∧ 1 ≤ ws.length ∧ ws.length ≤ 6 ∧ 0 ≤ x ∧ 0 ≤ y ∧ y < 2147483647 ∧
    (∀ q ∈ news, q ∈ rest) ∧ (∀ p ∈ rest, p.1 ≠ src) ∧ (@Ne Nat l src) ∧ Trees P rest ws vs
theorem ws_split {ws : List Value} {dd : Int} (h0 : 0 ≤ dd) (h1 : dd < ws.length - 1) : ws = ws.take dd.toNat ++ ws.getD dd.toNat .none :: ws.getD (dd + 1).toNat .none :: ws.drop (dd + 2).toNat := by
  have e1 : (dd + 1).toNat = dd.toNat + 1 := by omega
  have e2 : (dd + 2).toNat = dd.toNat + 1 + 1 := by omega
  have l1 : dd.toNat < ws.length := by omega
  have l2 : dd.toNat + 1 < ws.length := by omega
  have g1 : ws.getD dd.toNat .none = ws[dd.toNat] := by rw [List.getD_eq_getElem?_getD, List.getElem?_eq_getElem l1]; rfl
  have g2 : ws.getD (dd.toNat + 1) .none = ws[dd.toNat + 1] := by rw [List.getD_eq_getElem?_getD, List.getElem?_eq_getElem l2]; rfl
  rw [e1, e2, g1, g2, ← List.drop_eq_getElem_cons l2, ← List.drop_eq_getElem_cons l1, List.take_append_drop]
theorem join_turn {P : Params} {vs ws : List Value} {news rest : List (Addr × Obj)} {src b d D : Addr} {n : Nat} {m₀ m₂ : Str → Option Value} {g h' : Heap} {L' : Addr} {s₀ : Shared} {Q : Flow → Shared → Prop} {p1 p2 p3 p4 p5 : Addr × Obj} {dd x' y' : Int} {tx' ty' t0 t1 t2 t3 : Tok} {tk : Nat}
    (F : Fr g L' h' m₂) (N : News g L' h' ((D, listOf (List.take dd.toNat ws ++ [Value.ref b] ++ List.drop (dd + 2).toNat ws).toArray 0) :: p1 :: p2 :: p3 :: (b, instObj 101 d) :: (d, binD P "|" t0 t1 t2 t3 (ws.getD dd.toNat .none) (ws.getD (dd + 1).toNat .none)) :: p4 :: (src, srcO x' y' tx' ty' n) :: p5 :: rest))
    (h0 : 0 ≤ dd) (h1 : dd < (ws.length : Int) - 1) (hw : ws.length ≤ 6) (hsub : ∀ q ∈ news, q ∈ rest) (hoff : ∀ p ∈ rest, p.1 ≠ src) (htr : Trees P rest ws vs) (hb : @Ne Nat b src) (hd : @Ne Nat d src) (hD : @Ne Nat D src) (hx : 0 ≤ x') (hy : 0 ≤ y') (hy1 : y' < 2147483647)
    (hleft : m₂ (Str.ofString "left") = some (.ref D)) (hm : ∀ z, z ≠ Str.ofString "at" → z ≠ Str.ofString "left" → m₂ z = m₀ z) : WhileStep2 g L' s₀ (JoinJ P vs news src n m₀) Q ws.length .next { s₀ with heap := h', toks := tk } := by
  have hl : (ws.take dd.toNat ++ [Value.ref b] ++ ws.drop (dd + 2).toNat).length = ws.length - 1 := by
    rw [List.length_append, List.length_append, List.length_take, List.length_drop, List.length_singleton]; omega
  refine ⟨h', tk, m₂, (src, srcO x' y' tx' ty' n) :: (D, _) :: (b, instObj 101 d) :: (d, binD P "|" t0 t1 t2 t3 (ws.getD dd.toNat .none) (ws.getD (dd + 1).toNat .none)) :: rest, ws.length - 1, rfl, F, fun q hq => ?_, by omega,
    D, 0, _, x', y', tx', ty', (b, instObj 101 d) :: (d, binD P "|" t0 t1 t2 t3 (ws.getD dd.toNat .none) (ws.getD (dd + 1).toNat .none)) :: rest, _, rfl, frame2 m₀ hleft hm, hl.symm, by omega, by omega, hx, hy, hy1, fun q hq => .tail _ (.tail _ (hsub q hq)), fun q hq => ?_, hD, ?_⟩
  · refine N q ?_
    rcases List.mem_cons.mp hq with rfl | hq
    · k_mem
    · rcases List.mem_cons.mp hq with rfl | hq
      · k_mem
      · rcases List.mem_cons.mp hq with rfl | hq
        · k_mem
        · rcases List.mem_cons.mp hq with rfl | hq
          · k_mem
          · (repeat (first | exact hq | refine List.Mem.tail _ ?_))
  · rcases List.mem_cons.mp hq with rfl | hq
    · exact hb
    · rcases List.mem_cons.mp hq with rfl | hq
      · exact hd
      · exact hoff q hq
  · have q1 : Trees P ((b, instObj 101 d) :: (d, binD P "|" t0 t1 t2 t3 (ws.getD dd.toNat .none) (ws.getD (dd + 1).toNat .none)) :: rest) ws vs := htr.mono fun q hq => .tail _ (.tail _ hq)
    have e := ws_split h0 h1
    have t1' : Trees P ((b, instObj 101 d) :: (d, binD P "|" t0 t1 t2 t3 (ws.getD dd.toNat .none) (ws.getD (dd + 1).toNat .none)) :: rest) (ws.take dd.toNat ++ ws.getD dd.toNat .none :: ws.getD (dd + 1).toNat .none :: ws.drop (dd + 2).toNat) vs := by
      rw [← e]; exact q1
    have q2 := Trees.merge (a := b) (d := d) (.head _) (.tail _ (.head _)) t1'
    rw [List.append_assoc]
    exact q2
theorem join_c {src sm : Addr} {n k : Nat} {x y : Int} {tx ty : Tok} {vs : List Value}
    (B : Below A₀ base outer h₀) (F : Fr h₀ L s.heap m) (X : (hd.heap_39 w.params).In h₀) (N : News h₀ L s.heap ((src, srcO x y tx ty n) :: news)) (T : Top p loose mean mg mb h₀) (hk : cs.kind = .function)
    (hne : ∀ p ∈ news, p.1 ≠ src) (hx0 : 0 ≤ x) (hy0 : 0 ≤ y) (hy1 : y < 2147483647) (hsm : (sm, listOf vs.toArray k) ∈ news) (hlv : ∀ v ∈ vs, Leaf w.params news v) (hl0 : 1 ≤ vs.length) (hl1 : vs.length ≤ 6)
    (hd : dp + 3 < recursionLimit) (hu : un + 32 < cLine)
    (hret : ∀ (v : Value) (news' : List (Addr × Obj)) (x' y' : Int) (tx' ty' : Tok) (h' : Heap) (tk' : Nat), 0 ≤ x' → 0 ≤ y' → y' < 2147483647 → Fr h₀ L h' m → News h₀ L h' ((src, srcO x' y' tx' ty' n) :: news') →
      (∀ q ∈ news, q ∈ news') → (∀ p ∈ news', p.1 ≠ src) → TreeIn w.params news' v vs → Q v { s with heap := h', toks := tk' }) :
    wpAny (model prog w) (ktrTop dp un gd cn cs L a ccd cl outer) (call (.ref 298) [.ref src, .ref sm]) Q E s := by
  have N2 : News h₀ L s.heap ((src, srcO x y tx ty n) :: (sm, listOf vs.toArray k) :: news) := fun q hq => by
    rcases List.mem_cons.mp hq with rfl | hq
    · exact N _ (.head _)
    · rcases List.mem_cons.mp hq with rfl | hq
      · exact N _ (.tail _ hsm)
      · exact N _ (.tail _ hq)
  have hss : @Ne Nat sm src := hne _ hsm
  clear N
  k_with "exec While Compare cons nil" => (
    (rename Fr _ _ _ _ => lF'); (rename News _ _ _ _ => lN');
    (refine While_inv2 (JoinJ w.params vs news src n _) lF' (news_swap lN') ⟨_, _, vs, x, y, tx, ty, (sm, listOf vs.toArray k) :: news, _, rfl, frame2 _ rfl (fun _ _ _ => rfl), rfl, hl0, hl1, hx0, hy0, hy1, (fun q hq => .tail _ hq), ?_, ?_, ?_⟩ ?_);
    (case refine_1 => (intro q hq; rcases List.mem_cons.mp hq with rfl | hq; exact hss; exact hne _ hq));
    (case refine_2 => omega);
    (case refine_3 => exact Trees.ofLeaves fun v hv => (hlv v hv).mono fun q hq => .tail _ hq);
    clear lF' lN';
    rintro k1 m1 nw1 h1 tk1 F1 N1 ⟨l, c, ws, x1, y1, tx1, ty1, rest, u, rfl, rfl, rfl, hw0, hw1, hx1, hy1, hy2, hsub, hoff, hls, htr⟩)
  refine wpAny_call ?_
  k_dflt ktr_enter
  k_steps
  k_with_none
  · refine' join_turn ?a ?b ?c ?d hw1 hsub hoff htr ?e ?f ?g ?h ?i ?j ?k ?l
    (case a => assumption)
    (case b => assumption)
    (case c => assumption)
    (case d => assumption)
    (case e => omega)
    (case f => omega)
    (case g => omega)
    (case h => assumption)
    (case i => assumption)
    (case j => assumption)
    (case k => rfl)
    (case l => (intro z h1 h2; simp [h1, h2]))
  · have a9 : ¬ (1 : Int) < (ws.length : Int) := by assumption
    obtain _ | ⟨w1, ws⟩ := ws
    · exact absurd hw0 (by decide)
    obtain _ | ⟨w2, ws⟩ := ws
    · refine hret w1 ((l, listOf #[w1] c) :: rest) _ _ _ _ _ _ hx1 hy1 hy2 (by assumption) (by assumption) (fun q hq => .tail _ (hsub q hq)) (fun q hq => ?_) ((Trees.one htr).mono fun q hq => .tail _ hq)
      rcases List.mem_cons.mp hq with rfl | hq
      · exact hls
      · exact hoff q hq
    · exact absurd a9 (by simp only [List.length_cons]; omega)
end
end Mine
namespace Mine
theorem clear_alt : True := by w_top off; k_with_none; trivial
section
variable {prog : Program} {w : World} {p : Program} {loose : List Str} {mean : ExcName → Option Value} {mg mb : Str → Option Value}
  {dp un : Nat} {gd : Option (List Code)} {cn : Str} {cs : Scope} {a : Addr} {ccd : Value} {cl : List (Str × Addr)} {outer : List Env} {A₀ : Around} {base h₀ : Heap} {L : Addr} {m : Str → Option Value} {news : List (Addr × Obj)} {s : Shared} {Q E : Value → Shared → Prop}
theorem ne_nil0 {A : Around} {l b : Addr} (hl : s.heap.IsList l #[]) (hb : s.heap.IsList b #[]) (hu : A.units < cLine) (h : Q (.bool false) s) : wpAny (model prog w) A (compareOp .NotEq (.ref l) (.ref b)) Q E s :=
  cmp_ofNotEq (PySem.SeqAt.RcNeAt.lists (e := fun _ => true) hl hb rfl hu (fun j h1 _ => absurd h1 (Nat.not_lt_zero _)) prog w E Q h)
theorem ne_nil1 {A : Around} {l b : Addr} {q : List Value} {t : Value} (hl : s.heap.IsList l (q ++ [t]).toArray) (hb : s.heap.IsList b #[]) (hu : A.units < cLine) (h : Q (.bool true) s) : wpAny (model prog w) A (compareOp .NotEq (.ref l) (.ref b)) Q E s :=
  cmp_ofNotEq (PySem.SeqAt.RcNeAt.lists_lengths hl hb (by simp) hu prog w E Q h)
theorem last_app : ∀ (q : List Value) (t : Value), kl_last (q ++ [t]) = some (q, t)
  | [], t => rfl
  | x :: r, t => by
    show (match kl_last (r ++ [t]) with | some (p, y) => some (x :: p, y) | none => some ([], x)) = _
    rw [last_app r t]
theorem Trees.len {P : Params} {nw : List (Addr × Obj)} {vs xs : List Value} (h : Trees P nw vs xs) : vs.length ≤ xs.length := by
  induction h with
  | nil => exact Nat.le_refl _
  | cons h1 _ ih => have := h1.pos; rw [List.length_append, List.length_cons]; omega
theorem news_pick {h₀ h : Heap} {L : Addr} {p1 p2 p3 : Addr × Obj} {r : List (Addr × Obj)} (N : News h₀ L h (p1 :: p2 :: p3 :: r)) : News h₀ L h (p3 :: p2 :: r) := fun q hq => by
  rcases List.mem_cons.mp hq with rfl | hq
  · exact N _ (.tail _ (.tail _ (.head _)))
  · rcases List.mem_cons.mp hq with rfl | hq
    · exact N _ (.tail _ (.head _))
    · exact N _ (.tail _ (.tail _ (.tail _ hq)))
theorem news_mid {h₀ h : Heap} {L : Addr} {p1 p2 p3 : Addr × Obj} {r : List (Addr × Obj)} (N : News h₀ L h (p1 :: p2 :: p3 :: r)) : News h₀ L h (p2 :: r) := fun q hq => by
  rcases List.mem_cons.mp hq with rfl | hq
  · exact N _ (.tail _ (.head _))
  · exact N _ (.tail _ (.tail _ (.tail _ hq)))
theorem nil_or_app : ∀ l : List Value, l = [] ∨ ∃ q t, l = q ++ [t]
  | [] => .inl rfl
  | x :: r => .inr (match nil_or_app r with
    | .inl h => ⟨[], x, by rw [h]; rfl⟩
    | .inr ⟨q, t, h⟩ => ⟨x :: q, t, by rw [h]; rfl⟩)
theorem news_also {h₀ h : Heap} {L : Addr} {p1 p2 p3 p4 : Addr × Obj} {r : List (Addr × Obj)} (h1 : p1 ∈ r) (h2 : p2 ∈ r) (N : News h₀ L h (p3 :: p4 :: r)) : News h₀ L h (p1 :: p2 :: p3 :: p4 :: r) := fun q hq => by
  rcases List.mem_cons.mp hq with rfl | hq
  · exact N _ (.tail _ (.tail _ h1))
  · rcases List.mem_cons.mp hq with rfl | hq
    · exact N _ (.tail _ (.tail _ h2))
    · exact N _ hq
theorem frame1 {m₁ : Str → Option Value} {a : Str} (m₀ : Str → Option Value) (h : ∀ z, z ≠ a → m₁ z = m₀ z) : m₁ = fun z => if z = a then m₁ a else m₀ z := by
  funext z
  by_cases h1 : z = a
  · rw [if_pos h1, h1]
  · rw [if_neg h1]; exact h z h1
def Stop (P : Prop) : Prop := P
theorem stop {P : Prop} (h : Stop P) : P := h
def AltJ (P : Params) (vs : List Value) (news : List (Addr × Obj)) (f l : Addr) (m₀ : Str → Option Value) (k : Nat) (m₁ : Str → Option Value) (nw : List (Addr × Obj)) : Prop :=
  ∃ (cf c : Nat) (fs ls xs : List Value) (u : Option Value), nw = (f, listOf fs.toArray cf) :: (l, listOf ls.toArray c) :: news ∧
    m₁ = (fun z => if z = Str.ofString "one" then u else m₀ z) ∧ fs ++ xs = vs ∧ Trees P news ls.reverse xs ∧ k + ls.length = 2 * xs.length ∧ AllLt f news ∧ AllLt l news ∧ @Ne Nat f l
theorem TreeIn.isRef {P : Params} {nw : List (Addr × Obj)} {v : Value} {xs : List Value} (h : TreeIn P nw v xs) : ∃ a, v = .ref a := by
  cases h with
  | leaf h => obtain ⟨e, _, _, _, rfl, _⟩ := h; exact ⟨e, rfl⟩
  | node => exact ⟨_, rfl⟩
theorem alt_turn {P : Params} {vs fs' ls' xs' : List Value} {f l : Addr} {k k' cf' c' : Nat} {m₀ m₂ : Str → Option Value} {g h' : Heap} {L' : Addr} {s₀ : Shared} {Q : Flow → Shared → Prop} {p0 p1 p2 : Addr × Obj} {tk : Nat}
    (F : Fr g L' h' m₂) (N : News g L' h' (p0 :: p1 :: p2 :: (f, listOf fs'.toArray cf') :: (l, listOf ls'.toArray c') :: news)) (hm : ∀ z, z ≠ Str.ofString "one" → m₂ z = m₀ z)
    (hfn : AllLt f news) (hln : AllLt l news) (hfl : @Ne Nat f l) (hfx : fs' ++ xs' = vs) (htr : Trees P news ls'.reverse xs') (hk : k' + ls'.length = 2 * xs'.length) (hlt : k' < k) :
    WhileStep2 g L' s₀ (AltJ P vs news f l m₀) Q k .next { s₀ with heap := h', toks := tk } :=
  ⟨h', tk, m₂, _, k', rfl, F, fun q hq => N q (.tail _ (.tail _ (.tail _ hq))), hlt, cf', c', fs', ls', xs', _, rfl, frame1 m₀ hm, hfx, htr, hk, hfn, hln, hfl⟩
local macro_rules | `(tactic| k_room) => `(tactic| ktr_room)
local macro_rules | `(tactic| k_units) => `(tactic| ktr_units)
local macro_rules | `(tactic| k_all) => `(tactic| assumption)
local macro_rules | `(tactic| k_all) => `(tactic| exact tbn_neAll (by assumption))
local macro_rules | `(tactic| walk_at "compareOp NotEq ref ref") => `(tactic| (k_here; (with_reducible show wpAny _ _ (compareOp CmpOp.NotEq (Value.ref _) (Value.ref _)) _ _ _); k_dflt (first
  | (refine' ne_nil0 ?k1 ?k2 ?k3 ?_; (case k1 => kmk_list); (case k2 => kmk_list); (case k3 => ktr_units))
  | (refine' ne_nil1 ?k1 ?k2 ?k3 ?_; (case k1 => kmk_list); (case k2 => kmk_list); (case k3 => ktr_units)))))
local macro_rules | `(tactic| walk_at "call builtin:list.pop") => `(tactic| (k_here; (show wpAny _ _ (call (Value.builtin _) [Value.ref _]) _ _ _); k_dflt (refine' kl_pop ?F ?N ?e ?U ?z ?_; (case F => k_asm); (case N => k_asm); (case U => k_upd); (case e => exact last_app _ _); (case z => (show List.length (_ ++ [_]) ≤ _; rw [List.length_append, List.length_singleton, sizeLine_eq]; omega))); kl_rest))
local macro_rules | `(tactic| walk_at "call builtin:list.append") => `(tactic| (k_here; (show wpAny _ _ (call (Value.builtin _) [Value.ref _, _]) _ _ _); k_dflt (refine' append_K ?k1 ?k2 ?k3 ?_ ?z; (case k1 => k_asm); (case k2 => k_asm); (case k3 => k_upd); (case z => (simp only [Array.size_push, List.size_toArray]; rw [sizeLine_eq]; omega)); k_whole); intro h' F' N'; (try k_sweep)))
theorem alt_c {v : Value} {vs : List Value}
    (B : Below A₀ base outer h₀) (F : Fr h₀ L s.heap m) (X : (hd.heap_39 w.params).In h₀) (N : News h₀ L s.heap news) (T : Top p loose mean mg mb h₀) (hk : cs.kind = .function)
    (htree : TreeIn w.params news v vs) (hl1 : vs.length ≤ 6)
    (hd : dp + 3 < recursionLimit) (hu : un + 32 < cLine)
    (hret : ∀ (f : Addr) (c : Nat) (h' : Heap) (tk' : Nat), Fr h₀ L h' m → News h₀ L h' ((f, listOf vs.toArray c) :: news) → AllLt f news → Q (.ref f) { s with heap := h', toks := tk' }) :
    wpAny (model prog w) (ktrTop dp un gd cn cs L a ccd cl outer) (call (.ref 228) [v]) Q E s := by
  k_with "exec While Compare cons nil" => (refine stop ?_)
  refine wpAny_call ?_
  k_dflt ktr_enter
  k_steps
  k_with_none
  unfold Stop
  rename Fr _ _ _ _ => lF'
  rename News _ _ _ _ => lN'
  have hp0 := htree.pos
  refine While_inv2 (n₀ := 2 * vs.length - 1) (AltJ w.params vs news _ _ _) lF' (news_pick lN') ⟨_, _, [], [v], vs, _, rfl, frame1 _ (fun _ _ => rfl), rfl, ?_, ?_, ?_, ?_, ?_⟩ ?_
  · have := Trees.cons htree (.nil (P := w.params) (nw := news)); rw [List.append_nil] at this; exact this
  · show 2 * vs.length - 1 + 1 = _; omega
  · first | tbn_find | exact allLt_of (by assumption)
  · first | tbn_find | exact allLt_of (by assumption)
  · omega
  clear lF' lN'
  rintro k1 m1 nw1 h1 tk1 F1 N1 ⟨cf, c, fs, ls, xs, u, rfl, rfl, hfx, htr, hk1, hfn, hln, hfl⟩
  have hlen := congrArg List.length hfx
  rw [List.length_append] at hlen
  have hle := htr.len
  rw [List.length_reverse] at hle
  rcases nil_or_app ls with rfl | ⟨q, t, rfl⟩
  · cases htr
    rw [List.append_nil] at hfx
    subst hfx
    k_steps
    exact hret _ _ _ _ (by assumption) (news_mid (by assumption)) hfn
  · have htr : Trees w.params news (t :: q.reverse) xs := by rw [List.reverse_append] at htr; exact htr
    rw [List.length_append, List.length_singleton] at hk1 hle
    cases htr with
    | @cons _ _ xa xz ht hq =>
      have hql := hq.len
      rw [List.length_reverse] at hql
      cases ht with
      | leaf ht =>
        obtain ⟨e, dx, C, od, rfl, he, hdx, hC⟩ := ht
        have N2 := news_also he hdx N1
        have q1 : @LT.lt Nat _ e _ := tb_ltOf hfn _ he
        have q2 : @LT.lt Nat _ dx _ := tb_ltOf hfn _ hdx
        have q3 : @LT.lt Nat _ e _ := tb_ltOf hln _ he
        have q4 : @LT.lt Nat _ dx _ := tb_ltOf hln _ hdx
        clear N1
        rcases hC with rfl | rfl | rfl | rfl | rfl | ⟨rfl, t0, t1, t2, t3, l1, r1, rfl⟩
        all_goals k_steps
        all_goals (
          rename News _ _ _ _ => N9
          simp only [List.push_toArray] at N9
          refine' alt_turn (xs' := xz) (k' := k1 - 1) ?a1 N9 ?a2 hfn hln hfl ?a3 hq ?a4 ?a5
          (case a1 => assumption)
          (case a2 => (intro z h1; simp [h1]))
          (case a3 => (rw [List.append_assoc]; exact hfx))
          (case a4 => (simp only [List.length_append, List.length_singleton] at hk1 hle; omega))
          (case a5 => (simp only [List.length_append, List.length_singleton] at hk1 hle; omega)))
      | @node na nd nt0 nt1 nt2 nt3 nl nr xl xr hA hD hl hr =>
        have N2 := news_also hA hD N1
        have q1 : @LT.lt Nat _ _ _ := tb_ltOf hfn _ hA
        have q2 : @LT.lt Nat _ _ _ := tb_ltOf hfn _ hD
        have q3 : @LT.lt Nat _ _ _ := tb_ltOf hln _ hA
        have q4 : @LT.lt Nat _ _ _ := tb_ltOf hln _ hD
        clear N1
        obtain ⟨al, rfl⟩ := hl.isRef
        obtain ⟨ar, rfl⟩ := hr.isRef
        have hl0 := hl.pos
        have hr0 := hr.pos
        k_steps
        rename News _ _ _ _ => N9
        simp only [List.push_toArray] at N9
        refine' alt_turn (xs' := xl ++ (xr ++ xz)) (k' := k1 - 1) ?a1 N9 ?a2 hfn hln hfl ?a3 ?a6 ?a4 ?a5
        (case a1 => assumption)
        (case a2 => (intro z h1; simp [h1]))
        (case a6 => (rw [List.reverse_append, List.reverse_append]; exact .cons hl (.cons hr hq)))
        (case a3 => (rw [List.append_assoc] at hfx; exact hfx))
        (case a4 => (simp only [List.length_append, List.length_singleton] at hk1 hle ⊢; omega))
        (case a5 => (simp only [List.length_append, List.length_singleton] at hk1 hle; omega))
end
end Mine
namespace Mine
section
variable {prog : Program} {w : World} {A : Around} {E : Value → Shared → Prop} {s : Shared} {h₀ : Heap} {L : Addr} {m : Str → Option Value} {news : List (Addr × Obj)} {env : Env}
def ZipAt (h₀ : Heap) (L : Addr) (m : Str → Option Value) (news : List (Addr × Obj)) (vs : List Value) (Q : Value → Shared → Prop) (xv : Value) (s₁ : Shared) : Prop :=
  ∃ z TI TO i1 i2 l1 l2 : Addr, xv = .ref z ∧ ZipApart z TI TO i1 i2 l1 l2 ∧
    (IsZip s₁.heap z TI TO .none ∧ IsPair s₁.heap TI (.ref i1) (.ref i2) ∧ (∃ a b, IsPair s₁.heap TO a b) ∧ s₁.heap.IsListIter i1 l1 0 ∧ s₁.heap.IsListIter i2 l2 0 ∧ s₁.heap.IsList l1 vs.toArray ∧ s₁.heap.IsList l2 vs.toArray) ∧
    (∀ b ∈ [z, TI, TO, i1, i2], h₀.get? b = none ∧ L ≠ b ∧ ∀ p ∈ news, p.1 ≠ b) ∧ (∀ b ∈ [z, TI, TO, i1, i2, l1, l2], b < s₁.heap.objs.size) ∧ Fr h₀ L s₁.heap m ∧ News h₀ L s₁.heap news ∧
    ∀ D h' tk', Fr h₀ L h' m → News h₀ L h' ((D, listOf #[] 0) :: news) → AllLt D news → Q (.ref D) { s₁ with heap := h', toks := tk' }
theorem zip_at {l1 l2 : Addr} {c1 c2 : Nat} {vs : List Value} {Q : Value → Shared → Prop} (F : Fr h₀ L s.heap m) (N : News h₀ L s.heap news) (h1 : (l1, listOf vs.toArray c1) ∈ news) (h2 : (l2, listOf vs.toArray c2) ∈ news)
    (hQ : ∀ D h' tk', Fr h₀ L h' m → News h₀ L h' ((D, listOf #[] 0) :: news) → AllLt D news → Q (.ref D) { s with heap := h', toks := tk' }) :
    wpAny (model prog w) A (call (.type "zip") [.ref l1, .ref l2]) (ZipAt h₀ L m news vs Q) E s := by
  have hl1 : s.heap.IsList l1 vs.toArray := N.isList h1
  have hl2 : s.heap.IsList l2 vs.toArray := N.isList h2
  have hlt1 : @LT.lt Nat _ l1 s.heap.objs.size := Heap.lt_size (N _ h1).1
  have hlt2 : @LT.lt Nat _ l2 s.heap.objs.size := Heap.lt_size (N _ h2).1
  have hLs : @LT.lt Nat _ L s.heap.objs.size := F.ns.lt
  refine call_zip_2 hl1 hl2 fun h' hz hTI hTO hi1 hi2 hsz hk => ?_
  refine ⟨_, _, _, _, _, l1, l2, rfl, ktu_apart _ _ _ hlt1 hlt2, ⟨hz, hTI, ⟨_, _, hTO⟩, hi1, hi2, hl1.at fun o e => hk _ o e, hl2.at fun o e => hk _ o e⟩, fun b hb => ?_, fun b hb => ?_, F.keeps hk, N.grown hk, fun D h' tk' => hQ D h' tk'⟩
  · have hb' : @LE.le Nat _ s.heap.objs.size b := by
      simp only [List.mem_cons, List.not_mem_nil, or_false] at hb
      rcases hb with rfl | rfl | rfl | rfl | rfl <;> omega
    exact ⟨ktu_new F hb', Nat.ne_of_lt (Nat.lt_of_lt_of_le hLs hb'), fun p hp => Nat.ne_of_lt (Nat.lt_of_lt_of_le (Heap.lt_size (N p hp).1) hb')⟩
  · have hs' : h'.objs.size = s.heap.objs.size + 5 := hsz
    show @LT.lt Nat _ b h'.objs.size
    simp only [List.mem_cons, List.not_mem_nil, or_false] at hb
    rcases hb with rfl | rfl | rfl | rfl | rfl | rfl | rfl <;> omega
theorem zip_comp {elt zi : Expr} {a b : Str} {pa pb tp q1 q2 cp : Pos} {kk : Nat} {scope : Scope} {pos : Pos} {vs : List Value} {Q : Value → Shared → Prop} (hh : A.handled = none)
    (hfree : ∀ x ∈ scope.names, x.2 ≠ .free) (hcell : ∀ y ∈ scope.names, y.2 ≠ .cell) (hkind : scope.kind = .function)
    (hnames : ∀ y ∈ scope.names, y.2 = .local → scope.names.lookup y.1 = some .local) (hxa : scope.names.lookup a = some .local) (hxb : scope.names.lookup b = some .local) (hab : ¬ a = b)
    (hda : (a == ("__debug__" : Str)) = false) (hdb : (b == ("__debug__" : Str)) = false) (hrf : ∀ v ∈ vs, ∃ r, v = Value.ref r)
    (_F : Fr h₀ L s.heap m) (_N : News h₀ L s.heap news) (h : wpAny (model prog w) A (eval zi env) (ZipAt h₀ L m news vs Q) E s)
    (hs : ∀ x, foldedSetIterable zi env x = pure x := by intro _; rfl) :
    wpAny (model prog w) A (eval (.ListComp elt [⟨.Tuple [.Name a pa, .Name b pb] kk tp, zi, [.Compare (.Name a q1) [.IsNot] [.Name b q2] cp], 0⟩] scope pos) env) Q E s := by
  rw [eval_ListComp]
  refine wpAny_comprehension_free (use := none) rfl hs (closureFor_none hfree) hkind hnames (wpAny_mono h (fun xv s₁ h₁ => ?_) fun _ _ e => e)
  obtain ⟨z, TI, TO, i1, i2, l1, l2, rfl, D, hst, hnew, hfp, F, N, hQ⟩ := h₁
  refine wpAny_pyIter_zip hst.1 ?_
  refine wpAny_newObj_type (wpAny_newFunctionEnv hcell (by intro y hy; simp at hy) (fun h₁ hns₁ hsb₁ => ?_) hkind)
  dsimp only at hns₁ hsb₁ ⊢
  generalize hH2 : s₁.heap.push { cls := .type "list", dict := none, data := .seq ([] : List Value).toArray } = H2 at hns₁ hsb₁ ⊢
  have hC : H2.objs.size = s₁.heap.objs.size + 1 := by rw [← hH2, Heap.size_push]
  have hDC : s₁.heap.objs.size ≠ H2.objs.size := by rw [hC]; exact Nat.ne_of_lt (Nat.lt_succ_self _)
  have below : ∀ b, b < s₁.heap.objs.size → b ≠ H2.objs.size ∧ b ≠ s₁.heap.objs.size := fun b hb => ⟨by rw [hC]; exact Nat.ne_of_lt (Nat.lt_succ_of_lt hb), Nat.ne_of_lt hb⟩
  have old : ∀ b o, s₁.heap.get? b = some o → h₁.get? b = some o := fun b o e => hsb₁.extBut b o (below b (Heap.lt_size e)).1 (Heap.get?_push_of_some _ (hH2 ▸ Heap.get?_push_of_some _ e))
  have hacc : h₁.get? s₁.heap.objs.size = some (listOf #[] 0) := hsb₁.extBut _ _ hDC (Heap.get?_push_of_some _ (hH2 ▸ Heap.get?_push_size _ rfl))
  have fresh₀ : ∀ a, s₁.heap.objs.size ≤ a → h₀.get? a = none := fun a ha => by
    cases e : h₀.get? a with
    | none => rfl
    | some o' => exact absurd (Heap.lt_size (F.keep a o' e)) (Nat.not_lt.mpr ha)
  have hD₀ : h₀.get? s₁.heap.objs.size = none := fresh₀ _ (Nat.le_refl _)
  have hC₀ : h₀.get? H2.objs.size = none := fresh₀ _ (by rw [hC]; exact Nat.le_succ _)
  have hLlt : L < s₁.heap.objs.size := F.ns.lt
  have hDL : s₁.heap.objs.size ≠ L := Ne.symm (below L hLlt).2
  have hCL : H2.objs.size ≠ L := Ne.symm (below L hLlt).1
  have W := WalksT.zip2 (prog := prog) (w := w) hh z TI TO i1 i2 l1 l2 D vs.toArray vs.toArray
  have hn2 : min vs.toArray.size vs.toArray.size = vs.length := by rw [Nat.min_self, List.size_toArray]
  rw [hn2] at W
  have wrOff : ∀ b ∈ [z, TO, i1, i2], h₀.get? b = none ∧ L ≠ b ∧ (∀ p ∈ news, p.1 ≠ b) ∧ b < s₁.heap.objs.size := fun b hb => by
    have hb5 : b ∈ [z, TI, TO, i1, i2] := by
      simp only [List.mem_cons, List.not_mem_nil, or_false] at hb ⊢
      rcases hb with rfl | rfl | rfl | rfl <;> simp
    have hb7 : b ∈ [z, TI, TO, i1, i2, l1, l2] := by
      simp only [List.mem_cons, List.not_mem_nil, or_false] at hb ⊢
      rcases hb with rfl | rfl | rfl | rfl <;> simp
    exact ⟨(hnew b hb5).1, (hnew b hb5).2.1, (hnew b hb5).2.2, hfp b hb7⟩
  have frK : ∀ {x y : Heap}, Fr h₀ L x m → (∀ b o, b ∉ [z, TO, i1, i2] → x.get? b = some o → y.get? b = some o) → Fr h₀ L y m := fun Fx hk =>
    ⟨Fx.ns.at' fun o e => hk L o (fun hm => (wrOff L hm).2.1 rfl) e, fun b o e => hk b o (fun hm => by rw [(wrOff b hm).1] at e; cases e) (Fx.keep b o e), Fx.above⟩
  have nwK : ∀ {x y : Heap}, News h₀ L x ((s₁.heap.objs.size, listOf #[] 0) :: news) → (∀ b o, b ∉ [z, TO, i1, i2] → x.get? b = some o → y.get? b = some o) → News h₀ L y ((s₁.heap.objs.size, listOf #[] 0) :: news) := fun Nx hk p hp =>
    ⟨hk _ _ (fun hm => by
      rcases List.mem_cons.mp hp with rfl | hp
      · exact Nat.lt_irrefl _ (wrOff _ hm).2.2.2
      · exact (wrOff _ hm).2.2.1 p hp rfl) (Nx p hp).1, (Nx p hp).2⟩
  have hCw : H2.objs.size ∉ [z, TO, i1, i2] := fun hm => by have := (wrOff _ hm).2.2.2; rw [hC] at this; exact Nat.lt_irrefl _ (Nat.lt_of_succ_lt this)
  have hCf : H2.objs.size ∉ [z, TI, TO, i1, i2, l1, l2] := fun hm => by have := hfp _ hm; rw [hC] at this; exact Nat.lt_irrefl _ (Nat.lt_of_succ_lt this)
  have N₁ : News h₀ L h₁ ((s₁.heap.objs.size, listOf #[] 0) :: news) := fun p hp => by
    rcases List.mem_cons.mp hp with rfl | hp
    · exact ⟨hacc, hDL, hD₀⟩
    · exact ⟨old _ _ (N p hp).1, (N p hp).2⟩
  have loop : ∀ s₃ : Shared, s₃ = { s₁ with heap := h₁, toks := s₁.toks + ([] : List (Str × Value)).length } →
      codeAny (model prog w) A (.compLoop (.ListComp elt [⟨.Tuple [.Name a pa, .Name b pb] kk tp, zi, [.Compare (.Name a q1) [.IsNot] [.Name b q2] cp], 0⟩] scope pos) 0 (.ref z) (.ref s₁.heap.objs.size) (compEnvC scope [] H2.objs.size env))
        (compPost (model prog w) A E none Q (.ref s₁.heap.objs.size) H2.objs.size) s₃ := by
    rintro s₃ rfl
    refine kct_loop
      (fun k s' => ∃ h' tk i m', s' = { s₁ with heap := h', toks := tk } ∧ i ≤ vs.length ∧ k = vs.length + 1 - i ∧
        (IsZip h' z TI TO .none ∧ IsPair h' TI (.ref i1) (.ref i2) ∧ (∃ a b, IsPair h' TO a b) ∧ h'.IsListIter i1 l1 i ∧ h'.IsListIter i2 l2 i ∧ h'.IsList l1 vs.toArray ∧ h'.IsList l2 vs.toArray) ∧
        Fr h₀ L h' m ∧ h'.Ns H2.objs.size m' ∧ News h₀ L h' ((s₁.heap.objs.size, listOf #[] 0) :: news)) ?_ (vs.length + 1)
      ⟨h₁, _, 0, _, rfl, Nat.zero_le _, rfl, W.frame _ _ _ hst fun b hb o e => old b o e, F.keeps old, hns₁, N₁⟩
    rintro k s' ⟨h', tk, i, m', rfl, hi, rfl, hst', F', hn', N'⟩
    by_cases hlt : i < vs.length
    · refine W.item i _ _ _ hlt hst' fun T vals h₂ tk₂ hPt _ hT hMd hk₂ => ?_
      obtain ⟨x, y, hx, hy, rfl⟩ := hPt
      obtain rfl : x = y := Option.some.inj (hx.symm.trans hy)
      obtain ⟨r, rfl⟩ := hrf x (List.mem_of_getElem? (by simpa using hx))
      have hTw := W.apart _ _ _ hMd
      refine W.go _ _ _ i T _ _ _ hMd fun h₃ hst₃ hk₃ => ?_
      have hT₃ : h₃.IsTuple T #[.ref r, .ref r] := by obtain ⟨o, e, q⟩ := hT; exact ⟨o, hk₃ _ o hTw e, q⟩
      have up₃ : ∀ c o, c ∉ [z, TO, i1, i2] → h'.get? c = some o → h₃.get? c = some o := fun c o hc e => hk₃ c o hc (hk₂ c o hc e)
      refine kcp_assign (env := compEnvC scope [] H2.objs.size env) hh hT₃ (lookup_relabel_local hxa) (lookup_relabel_local hxb) (by simp [compEnvC, relabel, hkind]) (hn'.at' fun o e => up₃ _ o hCw e) fun h₄ tk₄ hn₄ hs₄ => ?_
      have hn₄' : h₄.Ns (compEnvC scope [] H2.objs.size env).locals _ := hn₄
      refine wpAny_isTrue_Compare1 ?_
      refine wpAny_Name (wpAny_loadName_local (by simp [compEnvC, relabel, hkind]) (lookup_relabel_local hxa) hn₄' (v := .ref r) (by show (if a = b then _ else if a = a then _ else _) = _; rw [if_neg hab, if_pos rfl]) ?_) hda
      refine wpAny_Name (wpAny_loadName_local (by simp [compEnvC, relabel, hkind]) (lookup_relabel_local hxb) hn₄' (v := .ref r) (by show (if b = b then _ else _) = _; rw [if_pos rfl]) ?_) hdb
      refine isnot_ref_same ?_
      refine wpAny_pure ?_
      rw [if_neg (by decide)]
      have F₃ : Fr h₀ L h₃ m := frK F' up₃
      have N₃ := nwK N' up₃
      refine ⟨vs.length + 1 - (i + 1), by omega, h₄, _, i + 1, _, rfl, hlt, rfl, W.frame _ _ _ hst₃ fun b hb o e => hs₄ b o (fun q => hCf (by have q' : b = H2.objs.size := q; rw [← q']; exact hb)) e, ?_, hn₄, fun p hp => ?_⟩
      · exact ⟨F₃.ns.at' fun o e => hs₄ _ o (Ne.symm hCL) e, fun b o e => hs₄ b o (fun q => by have q' : b = H2.objs.size := q; rw [q', hC₀] at e; cases e) (F₃.keep b o e), F₃.above⟩
      · refine ⟨hs₄ _ _ (fun q => ?_) (N₃ p hp).1, (N₃ p hp).2⟩
        have q' : p.1 = H2.objs.size := q
        rcases List.mem_cons.mp hp with rfl | hp
        · exact hDC q'
        · exact (below _ (Heap.lt_size (N p hp).1)).1 q'
    · obtain rfl : i = vs.length := Nat.le_antisymm hi (Nat.not_lt.mp hlt)
      refine W.done _ _ _ hst' fun h₂ tk₂ hk₂ => ?_
      have F₂ := frK F' hk₂
      have N₂ := nwK N' hk₂
      refine ⟨_, hn'.at' fun o e => hk₂ _ o hCw e, fun h'' hs'' => hQ _ h'' tk₂ (F₂.change hs'' hCL hC₀) (fun p hp => ?_) (allLt_of fun p hp => Heap.lt_size (N p hp).1)⟩
      refine ⟨hs''.extBut _ _ (fun q => ?_) (N₂ p hp).1, (N₂ p hp).2⟩
      rcases List.mem_cons.mp hp with rfl | hp
      · exact hDC q
      · exact (below _ (Heap.lt_size (N p hp).1)).1 q
  exact codeAny_compStart_list (loop _ rfl) (wpAny_pyIter_zip (old _ _ hst.1) (loop _ rfl))
end
end Mine
namespace Mine
theorem clear_same : True := by w_top off; k_with_none; trivial
section
variable {prog : Program} {w : World} {p : Program} {loose : List Str} {mean : ExcName → Option Value} {mg mb : Str → Option Value}
  {dp un : Nat} {gd : Option (List Code)} {cn : Str} {cs : Scope} {a : Addr} {ccd : Value} {cl : List (Str × Addr)} {outer : List Env} {A₀ : Around} {base h₀ : Heap} {L : Addr} {m : Str → Option Value} {news : List (Addr × Obj)} {s : Shared} {Q E : Value → Shared → Prop}
theorem news_drop4 {h₀ h : Heap} {L : Addr} {p1 p2 p3 p4 : Addr × Obj} {r : List (Addr × Obj)} (N : News h₀ L h (p1 :: p2 :: p3 :: p4 :: r)) : News h₀ L h r := fun q hq => N q (.tail _ (.tail _ (.tail _ (.tail _ hq))))
theorem eq_nil0 {A : Around} {l b : Addr} (hl : s.heap.IsList l #[]) (hb : s.heap.IsList b #[]) (hu : A.units < cLine) (h : Q (.bool true) s) : wpAny (model prog w) A (compareOp .Eq (.ref l) (.ref b)) Q E s :=
  SeqAt.eq_listAt (e := fun _ => true) hl hb rfl hu (fun j h1 _ => absurd h1 (Nat.not_lt_zero _)) h
local macro_rules | `(tactic| k_room) => `(tactic| ktr_room)
local macro_rules | `(tactic| k_units) => `(tactic| ktr_units)
local macro_rules | `(tactic| walk_at "compareOp Eq ref ref") => `(tactic| (k_here; (with_reducible show wpAny _ _ (compareOp CmpOp.Eq (Value.ref _) (Value.ref _)) _ _ _); k_dflt (refine' eq_nil0 ?k1 ?k2 ?k3 ?_; (case k1 => kmk_list); (case k2 => kmk_list); (case k3 => ktr_units))))
local macro_rules | `(tactic| walk_at "call builtin:len") => `(tactic| (k_here; (with_reducible show wpAny _ _ (call (Value.builtin "len") [Value.ref _]) _ _ _); k_dflt (refine' len_v ?k1 ?k2 ?_; (case k1 => kmk_list); (case k2 => omega); k_whole)))
local macro_rules | `(tactic| walk_at "call type:zip") => `(tactic| (k_here; (show wpAny _ _ (call (Value.type "zip") [Value.ref _, Value.ref _]) (ZipAt _ _ _ _ _ _) _ _); k_dflt (refine' zip_at ?F ?N ?a ?b ?_; (case F => k_asm); (case N => k_asm); (case a => k_mem); (case b => k_mem)); intro D' h' tk' F' N' l1; (try k_sweep)))
local macro_rules | `(tactic| walk_at "eval ListComp") => `(tactic| (refine stop ?_; walk_say "STOP"))
theorem same_c {t d : Addr} {c1 c2 : Nat} {vs : List Value}
    (B : Below A₀ base outer h₀) (F : Fr h₀ L s.heap m) (X : (hd.heap_39 w.params).In h₀) (N : News h₀ L s.heap news) (T : Top p loose mean mg mb h₀) (hk : cs.kind = .function)
    (ht : (t, listOf vs.toArray c1) ∈ news) (hdd : (d, listOf vs.toArray c2) ∈ news) (hl1 : vs.length ≤ 6) (hrf : ∀ v ∈ vs, ∃ r, v = Value.ref r)
    (hd : dp + 3 < recursionLimit) (hu : un + 32 < cLine)
    (hret : ∀ (h' : Heap) (tk' : Nat), Fr h₀ L h' m → News h₀ L h' news → Q (.bool true) { s with heap := h', toks := tk' }) :
    wpAny (model prog w) (ktrTop dp un gd cn cs L a ccd cl outer) (call (.ref 303) [.ref t, .ref d]) Q E s := by
  have N2 : News h₀ L s.heap ((t, listOf vs.toArray c1) :: (d, listOf vs.toArray c2) :: news) := fun q hq => by
    rcases List.mem_cons.mp hq with rfl | hq
    · exact N _ ht
    · rcases List.mem_cons.mp hq with rfl | hq
      · exact N _ hdd
      · exact N _ hq
  clear N
  refine wpAny_call ?_
  k_dflt ktr_enter
  k_steps
  · unfold Stop
    refine' zip_comp (vs := vs) ?a1 ?a2 ?a3 ?a4 ?a5 ?a6 ?a7 ?a8 ?a9 ?a10 hrf ?aF ?aN ?_ ?a12
    (case aF => assumption)
    (case aN => assumption)
    (case a1 => rfl)
    (case a2 => decide)
    (case a3 => decide)
    (case a4 => rfl)
    (case a5 => decide)
    (case a6 => rfl)
    (case a7 => rfl)
    (case a8 => decide)
    (case a9 => decide)
    (case a10 => decide)
    (case a12 => (intro x; rfl))
    k_steps
    exact hret _ _ (by assumption) (news_drop4 (by assumption))
  · exact absurd rfl ‹_›
end
end Mine
namespace Mine
theorem clear_one : True := by w_top off; k_with_none; trivial
section
variable {prog : Program} {w : World} {p : Program} {loose : List Str} {mean : ExcName → Option Value} {mg mb : Str → Option Value}
  {dp un : Nat} {gd : Option (List Code)} {cn : Str} {cs : Scope} {a : Addr} {ccd : Value} {cl : List (Str × Addr)} {outer : List Env} {A₀ : Around} {base h₀ : Heap} {L : Addr} {m : Str → Option Value} {news : List (Addr × Obj)} {s : Shared} {Q E : Value → Shared → Prop}
local macro_rules | `(tactic| k_room) => `(tactic| ktr_room)
local macro_rules | `(tactic| k_units) => `(tactic| ktr_units)
local macro_rules | `(tactic| k_all) => `(tactic| assumption)
local macro_rules | `(tactic| walk_at "call builtin:len") => `(tactic| (k_here; (with_reducible show wpAny _ _ (call (Value.builtin "len") [Value.ref _]) _ _ _); k_dflt (refine' len_v ?k1 ?k2 ?_; (case k1 => kmk_list); (case k2 => omega); k_whole)))
local macro_rules | `(tactic| walk_at "subscriptTail") => `(tactic| (k_here; (with_reducible show wpAny _ _ (subscriptTail _ _ (Value.ref _) (Value.int _ _)) _ _ _); (with_unfolding_all refine' item_litK ?k1 ?k2 ?k3 ?k4 ?_ ?k6; (case k1 => kmk_list); (case k2 => first | decide | omega); (case k3 => first | decide | omega); (case k4 => exact getD_some (by first | decide | omega) (by first | decide | omega)); (case k6 => with_unfolding_all rfl); k_whole)))
local macro_rules | `(tactic| walk_at "call ref") => `(tactic| (k_here; (show wpAny _ _ (call (Value.ref 277) _) _ _ _); k_dflt (
  refine' take_u ?k1 ?k2 ?k3 ?k4 ?k5 ?k6 ?k7 ?k8 ?k9 ?k10 ?k11 ?k12 ?k13 ?k14 ?_; (case k1 => k_asm); (case k2 => k_asm); (case k3 => k_asm); (case k4 => k_asm); (case k5 => k_asm); (case k6 => first | exact rfl | assumption);
  (case k7 => (intro o9; k_upd)); (case k8 => k_asm); (case k9 => k_asm); (case k10 => k_asm); (case k11 => first | decide | omega); (case k12 => first | decide | omega); (case k13 => ktr_room); (case k14 => ktr_units); k_whole); intro d' td' x' y' tx' ty' h' tk' hd0' hd1' hx0' hy0' hy1' F' N'; (try dsimp only at N'); (try dsimp only); (try k_sweep); (try k_fold)))
theorem one_c {src t : Addr} {n c : Nat} {x y : Int} {tx ty : Tok} {vs : List Value}
    (B : Below A₀ base outer h₀) (F : Fr h₀ L s.heap m) (X : (hd.heap_39 w.params).In h₀) (N : News h₀ L s.heap ((src, srcO x y tx ty n) :: (t, listOf vs.toArray c) :: news)) (T : Top p loose mean mg mb h₀) (hk : cs.kind = .function)
    (hne : ∀ p ∈ news, p.1 ≠ src) (hts : @Ne Nat t src) (hx0 : 0 ≤ x) (hy0 : 0 ≤ y) (hy1 : y < 2147483647) (hl0 : 1 ≤ vs.length) (hl1 : vs.length < 100)
    (hd : dp + 3 < recursionLimit) (hu : un + 32 < cLine)
    (hret : ∀ (v : Value) (x' y' : Int) (tx' ty' : Tok) (h' : Heap) (tk' : Nat), v ∈ vs → 0 ≤ x' → 0 ≤ y' → y' < 2147483647 → Fr h₀ L h' m → News h₀ L h' ((src, srcO x' y' tx' ty' n) :: (t, listOf vs.toArray c) :: news) → Q v { s with heap := h', toks := tk' }) :
    wpAny (model prog w) (ktrTop dp un gd cn cs L a ccd cl outer) (call (.ref 284) [.ref src, .ref t]) Q E s := by
  refine wpAny_call ?_
  k_dflt ktr_enter
  k_steps
  refine' hret _ _ _ _ _ _ _ ?a1 ?a2 ?a3 ?a4 ?a5 ?a6
  (case a5 => assumption)
  (case a6 => assumption)
  (case a2 => assumption)
  (case a3 => assumption)
  (case a4 => assumption)
  (case a1 => exact List.mem_of_getElem? (getD_some (by assumption) (by assumption)))
theorem one_u {src t : Addr} {n c : Nat} {x y : Int} {tx ty : Tok} {vs : List Value} {f : Obj → List (Addr × Obj)}
    (B : Below A₀ base outer h₀) (F : Fr h₀ L s.heap m) (X : (hd.heap_39 w.params).In h₀) (N : News h₀ L s.heap news) (T : Top p loose mean mg mb h₀) (hk : cs.kind = .function)
    (U : ∀ o', Upd src (srcO x y tx ty n) o' news (f o')) (ht : (t, listOf vs.toArray c) ∈ news) (hts : @Ne Nat t src) (hx0 : 0 ≤ x) (hy0 : 0 ≤ y) (hy1 : y < 2147483647) (hl0 : 1 ≤ vs.length) (hl1 : vs.length < 100)
    (hd : dp + 3 < recursionLimit) (hu : un + 32 < cLine)
    (hret : ∀ (v : Value) (x' y' : Int) (tx' ty' : Tok) (h' : Heap) (tk' : Nat), v ∈ vs → 0 ≤ x' → 0 ≤ y' → y' < 2147483647 → Fr h₀ L h' m → News h₀ L h' (f (srcO x' y' tx' ty' n)) → Q v { s with heap := h', toks := tk' }) :
    wpAny (model prog w) (ktrTop dp un gd cn cs L a ccd cl outer) (call (.ref 284) [.ref src, .ref t]) Q E s := by
  have N1 := news_take (U default) N
  refine one_c B F X (news := news.filter (fun q => q.1 != src)) (c := c) (vs := vs) (x := x) (y := y) (tx := tx) (ty := ty) (n := n) (fun q hq => ?_) T hk (fun q hq => by simpa using (List.mem_filter.mp hq).2) hts hx0 hy0 hy1 hl0 hl1 hd hu
    fun v x' y' tx' ty' h' tk' h1 h2 h3 h4 F' N' => hret v x' y' tx' ty' h' tk' h1 h2 h3 h4 F' (news_slot (U _) fun q hq => ?_)
  · rcases List.mem_cons.mp hq with rfl | hq
    · exact N1 _ (.head _)
    · rcases List.mem_cons.mp hq with rfl | hq
      · exact N _ ht
      · exact N1 _ (.tail _ hq)
  · rcases List.mem_cons.mp hq with rfl | hq
    · exact N' _ (.head _)
    · exact N' _ (.tail _ (.tail _ hq))
end
end Mine
namespace Mine
theorem clear_step : True := by w_top off; k_with_none; trivial
section
variable {prog : Program} {w : World} {p : Program} {loose : List Str} {mean : ExcName → Option Value} {mg mb : Str → Option Value}
  {dp un : Nat} {gd : Option (List Code)} {cn : Str} {cs : Scope} {a : Addr} {ccd : Value} {cl : List (Str × Addr)} {outer : List Env} {A₀ : Around} {base h₀ : Heap} {L : Addr} {m : Str → Option Value} {news : List (Addr × Obj)} {s : Shared} {Q E : Value → Shared → Prop}
local macro_rules | `(tactic| walk_at "none at all") => `(tactic| fail)
local macro_rules | `(tactic| k_room) => `(tactic| ktr_room)
local macro_rules | `(tactic| k_units) => `(tactic| ktr_units)
local macro_rules | `(tactic| k_all) => `(tactic| assumption)
local macro_rules | `(tactic| walk_at "call ref") => `(tactic| (k_here; (show wpAny _ _ (call (Value.ref 284) _) _ _ _); k_dflt (
  refine' one_u ?k1 ?k2 ?k3 ?k4 ?k5 ?k6 ?k7 ?kt ?ks ?k8 ?k9 ?k10 ?k11 ?k12 ?k13 ?k14 ?_; (case k1 => k_asm); (case k2 => k_asm); (case k3 => k_asm); (case k4 => k_asm); (case k5 => k_asm); (case k6 => first | exact rfl | assumption);
  (case k7 => (intro o9; k_upd)); (case kt => k_mem); (case ks => (refine neN ?_; omega)); (case k8 => k_asm); (case k9 => k_asm); (case k10 => k_asm); (case k11 => exact Nat.le_of_ble_eq_true rfl); (case k12 => exact Nat.le_of_ble_eq_true rfl); (case k13 => ktr_room); (case k14 => ktr_units); k_whole); refine stop ?_; walk_say "ONE"))
abbrev tupO (vs : List Value) : Obj := { cls := .type "tuple", data := .seq vs.toArray }
def TestKind (tvs : List Value) (isn : Bool) : Prop :=
  (isn = true ∧ ∃ t, tvs = [.str "node" t]) ∨ (isn = false ∧ ((∃ t, tvs = [.str "any" t]) ∨ (∃ t, tvs = [.str "text" t]) ∨ (∃ t1 t2 t3, tvs = [.str "name" t1, .str "" t2, .str "node" t3]) ∨ ∃ t1 t2, tvs = [.str "any of" t1, .str "node" t2]))
theorem ne_of_news {g h : Heap} {L x y : Addr} {o1 o2 : Obj} {all : List (Addr × Obj)} (N : News g L h all) (h1 : (x, o1) ∈ all) (h2 : (y, o2) ∈ all) (hc : o1.cls ≠ o2.cls) : @Ne Nat x y := fun e => by
  have e' : x = y := e
  subst e'
  exact hc (congrArg Obj.cls (Option.some.inj ((N _ h1).1.symm.trans (N _ h2).1)))
theorem pick_test {g h : Heap} {L D1 D2 D3 D4 D5 D6 src : Addr} {p1 p2 : Addr × Obj} {n : Nat} {x y : Int} {tx ty a1 a2 a3 a4 a5 a6 a7 a8 a9 : Tok} {v : Value}
    (N : News g L h (p1 :: (D6, tupO [.str "any of" a1, .str "node" a2]) :: (D5, tupO [.str "name" a3, .str "" a4, .str "node" a5]) :: (D4, tupO [.str "text" a6]) :: (D3, tupO [.str "any" a7]) :: (D2, tupO [.str "node" a8]) :: (D1, tupO [.str "node" a9]) :: p2 :: (src, srcO x y tx ty n) :: news))
    (hv : v ∈ [Value.ref D1, Value.ref D2, Value.ref D3, Value.ref D4, Value.ref D5, Value.ref D6]) :
    ∃ T tvs isn, v = .ref T ∧ News g L h ((T, tupO tvs) :: (src, srcO x y tx ty n) :: news) ∧ TestKind tvs isn ∧ @Ne Nat T src := by
  have key : ∀ {T : Addr} {tvs : List Value} {isn : Bool}, (T, tupO tvs) ∈ (p1 :: (D6, tupO [.str "any of" a1, .str "node" a2]) :: (D5, tupO [.str "name" a3, .str "" a4, .str "node" a5]) :: (D4, tupO [.str "text" a6]) :: (D3, tupO [.str "any" a7]) :: (D2, tupO [.str "node" a8]) :: (D1, tupO [.str "node" a9]) :: p2 :: (src, srcO x y tx ty n) :: news) → TestKind tvs isn →
      ∃ T' tvs isn, Value.ref T = .ref T' ∧ News g L h ((T', tupO tvs) :: (src, srcO x y tx ty n) :: news) ∧ TestKind tvs isn ∧ @Ne Nat T' src := fun hm hk => by
    refine ⟨_, _, _, rfl, fun q hq => ?_, hk, ne_of_news N hm (by k_mem) (show Value.type "tuple" ≠ Value.type "list" from by decide)⟩
    rcases List.mem_cons.mp hq with rfl | hq
    · exact N _ hm
    · refine N _ ?_
      (repeat (first | exact hq | refine List.Mem.tail _ ?_))
  simp only [List.mem_cons, List.not_mem_nil, or_false] at hv
  rcases hv with rfl | rfl | rfl | rfl | rfl | rfl
  · exact key (by k_mem) (.inl ⟨rfl, _, rfl⟩)
  · exact key (by k_mem) (.inl ⟨rfl, _, rfl⟩)
  · exact key (by k_mem) (.inr ⟨rfl, .inl ⟨_, rfl⟩⟩)
  · exact key (by k_mem) (.inr ⟨rfl, .inr (.inl ⟨_, rfl⟩)⟩)
  · exact key (by k_mem) (.inr ⟨rfl, .inr (.inr (.inl ⟨_, _, _, rfl⟩))⟩)
  · exact key (by k_mem) (.inr ⟨rfl, .inr (.inr (.inr ⟨_, _, rfl⟩))⟩)
theorem rc_node {A : Around} {T T2 : Addr} {x : Str} {tx t2 : Tok} {rest : List Value} {b : Bool} (hT : s.heap.IsTuple T (Value.str x tx :: rest).toArray) (hT2 : s.heap.IsTuple T2 [Value.str (Str.ofString "node") t2].toArray) (hu : A.units < cLine)
    (hb : ((List.range (min (rest.length + 1) 1)).all (fun _ => x == Str.ofString "node") && (rest.length + 1 == 1)) = b) : SeqAt.RcAt A s (.ref T) (.ref T2) b := by
  rw [← hb]
  refine SeqAt.RcAt.tuples (e := fun _ => x == Str.ofString "node") hT hT2 hu fun j h1 h2 => ?_
  have hj : j < 1 := h2
  obtain rfl : j = 0 := by omega
  exact SeqAt.EqAt.str_str x tx _ t2
theorem rc_test {A : Around} {T T2 : Addr} {tvs : List Value} {isn : Bool} {t2 : Tok} (hT : s.heap.IsTuple T tvs.toArray) (hT2 : s.heap.IsTuple T2 [Value.str (Str.ofString "node") t2].toArray) (hk : TestKind tvs isn) (hu : A.units < cLine) : SeqAt.RcAt A s (.ref T) (.ref T2) isn := by
  rcases hk with ⟨rfl, t9, rfl⟩ | ⟨rfl, ⟨t9, rfl⟩ | ⟨t9, rfl⟩ | ⟨t7, t8, t9, rfl⟩ | ⟨t8, t9, rfl⟩⟩
  all_goals exact rc_node hT hT2 hu (by simp only [List.length_cons, List.length_nil]; decide +kernel)
theorem step_eq {A : Around} {l b T T2 : Addr} {A0 : Str} {tA tB tk tz t2 : Tok} {k : Int} {tvs : List Value} {isn : Bool}
    (hl : s.heap.IsList l [Value.str A0 tA, .ref T, .int k tk].toArray) (hb : s.heap.IsList b [Value.str (Str.ofString "descendant-or-self") tB, .ref T2, .int 0 tz].toArray) (hT : s.heap.IsTuple T tvs.toArray) (hT2 : s.heap.IsTuple T2 [Value.str (Str.ofString "node") t2].toArray)
    (hne : @Ne Nat T T2) (hk : TestKind tvs isn) (hu : A.units < cLine) (hu2 : A.in1.units < cLine) (h : Q (.bool (A0 == Str.ofString "descendant-or-self" && isn && k == 0)) s) : wpAny (model prog w) A (compareOp .Eq (.ref l) (.ref b)) Q E s := by
  refine SeqAt.eq_listAt (e := fun j => match j with | 0 => A0 == Str.ofString "descendant-or-self" | 1 => isn | _ => k == 0) hl hb rfl hu (fun j h1 h2 => ?_) ?_
  · have hj : j < 3 := h1
    match j, hj with
    | 0, _ => exact SeqAt.EqAt.str_str A0 tA _ tB
    | 1, _ => exact SeqAt.EqAt.of_refs hne (rc_test hT hT2 hk hu2)
    | 2, _ => exact SeqAt.EqAt.int_int k tk 0 tz
  · have e : (A0 == Str.ofString "descendant-or-self" && isn && k == 0) = (List.range 3).all (fun j => match j with | 0 => A0 == Str.ofString "descendant-or-self" | 1 => isn | _ => k == 0) := by
      simp [List.range, List.range.loop, Bool.and_assoc]
    rw [e] at h
    exact h
local macro_rules | `(tactic| walk_at "compareOp Eq ref ref") => `(tactic| (k_here; (with_reducible show wpAny _ _ (compareOp CmpOp.Eq (Value.ref _) (Value.ref _)) _ _ _); k_dflt (refine' step_eq ?k1 ?k2 ?k3 ?k4 ?k5 ?k6 ?k7 ?k8 ?_; (case k1 => exact News.isList (by k_asm) (by k_mem)); (case k2 => exact News.isList (by k_asm) (by k_mem)); (case k3 => exact News.isTup (by k_asm) (by k_mem)); (case k4 => exact News.isTup (by k_asm) (by k_mem)); (case k5 => omega); (case k6 => assumption); (case k7 => ktr_units); (case k8 => ktr_units))))
local macro_rules | `(tactic| walk_at "binaryOp Mult ref int") => `(tactic| (k_here; (with_reducible show wpAny _ _ (binaryOp Operator.Mult (Value.ref _) (Value.int _ _)) _ _ _); k_dflt (refine' KMa.mul ?F ?N ?l ?lo ?hi ?z ?e ?_; (case F => k_asm); (case N => k_asm); (case l => kmk_list); (case lo => decide); (case hi => decide); (case z => exact Nat.le_of_ble_eq_true rfl); (case e => (simp only [Int.reduceToNat, Int.toNat_zero, Int.toNat_one, List.replicate_succ, List.replicate_zero, List.flatten_cons, List.flatten_nil, List.append_nil, List.cons_append, List.nil_append]; rfl))); intro D' h' F' N' l1; (try k_lt l1); (try k_sweep)))
abbrev stepD (P : Params) (A : Str) (tA k1 k2 k3 : Tok) (T Pp : Addr) : Obj :=
  dictOf [⟨PyData.keyHash P "axis", .str "axis" k1, .str A tA⟩, ⟨PyData.keyHash P "test", .str "test" k2, .ref T⟩, ⟨PyData.keyHash P "predicates", .str "predicates" k3, .ref Pp⟩] 3
theorem news6 {h₀ h : Heap} {L : Addr} {all news : List (Addr × Obj)} {p1 p2 p3 p4 p5 p6 : Addr × Obj} (N : News h₀ L h all) (h1 : p1 ∈ all) (h2 : p2 ∈ all) (h3 : p3 ∈ all) (h4 : p4 ∈ all) (h5 : p5 ∈ all) (h6 : p6 ∈ all) (h7 : ∀ q ∈ news, q ∈ all) : News h₀ L h (p1 :: p2 :: p3 :: p4 :: p5 :: p6 :: news) := fun q hq => by
  rcases List.mem_cons.mp hq with rfl | hq
  · exact N _ h1
  rcases List.mem_cons.mp hq with rfl | hq
  · exact N _ h2
  rcases List.mem_cons.mp hq with rfl | hq
  · exact N _ h3
  rcases List.mem_cons.mp hq with rfl | hq
  · exact N _ h4
  rcases List.mem_cons.mp hq with rfl | hq
  · exact N _ h5
  rcases List.mem_cons.mp hq with rfl | hq
  · exact N _ h6
  exact N _ (h7 _ hq)
theorem step_c {src : Addr} {n : Nat} {x y : Int} {tx ty : Tok}
    (B : Below A₀ base outer h₀) (F : Fr h₀ L s.heap m) (X : (hd.heap_39 w.params).In h₀) (N : News h₀ L s.heap ((src, srcO x y tx ty n) :: news)) (T : Top p loose mean mg mb h₀) (hk : cs.kind = .function)
    (hne : ∀ p ∈ news, p.1 ≠ src) (hx0 : 0 ≤ x) (hy0 : 0 ≤ y) (hy1 : y < 2147483647)
    (hd : dp + 6 < recursionLimit) (hu : un + 64 < cLine)
    (hret : ∀ (t st dx T Pp : Addr) (A : Str) (b isn : Bool) (tvs pvs : List Value) (tA k1 k2 k3 : Tok) (x' y' : Int) (tx' ty' : Tok) (h' : Heap) (tk' : Nat), 0 ≤ x' → 0 ≤ y' → y' < 2147483647 → Fr h₀ L h' m →
      News h₀ L h' ((t, tupO [.ref st, .bool b]) :: (st, instObj 213 dx) :: (dx, stepD w.params A tA k1 k2 k3 T Pp) :: (T, tupO tvs) :: (Pp, tupO pvs) :: (src, srcO x' y' tx' ty' n) :: news) → TestKind tvs isn → pvs.length ≤ 2 →
      b = (A == Str.ofString "descendant-or-self" && isn && (pvs.length == 0)) → Q (.ref t) { s with heap := h', toks := tk' }) :
    wpAny (model prog w) (ktrTop dp un gd cn cs L a ccd cl outer) (call (.ref 310) [.ref src]) Q E s := by
  refine wpAny_call ?_
  k_dflt ktr_enter
  k_steps
  unfold Stop
  intro v1 x1 y1 tx1 ty1 h1 tk1 hv1 hx1 hy1 hy1' F1 N1
  try dsimp only at N1
  obtain ⟨A, tA, rfl⟩ : ∃ A tA, v1 = .str A tA := by
    simp only [List.mem_cons, List.not_mem_nil, or_false] at hv1
    rcases hv1 with rfl | rfl | rfl | rfl | rfl | rfl <;> exact ⟨_, _, rfl⟩
  clear hv1
  k_sweep
  k_fold
  k_steps
  unfold Stop
  intro v2 x2 y2 tx2 ty2 h2 tk2 hv2 hx2 hy2 hy2' F2 N2
  try dsimp only at N2
  obtain ⟨T, tvs, isn, rfl, N2', hTk, hTs⟩ := pick_test N2 hv2
  clear N2 hv2
  repeat (rename _ ∧ _ => hz9; clear hz9)
  k_sweep
  k_fold
  k_steps
  unfold Stop
  intro v3 x3 y3 tx3 ty3 h3 tk3 hv3 hx3 hy3 hy3' F3 N3
  try dsimp only at N3
  obtain ⟨k3, t3, rfl, hk3⟩ : ∃ k3 t3, v3 = .int k3 t3 ∧ (k3 = 0 ∨ k3 = 1 ∨ k3 = 2) := by
    simp only [List.mem_cons, List.not_mem_nil, or_false] at hv3
    rcases hv3 with rfl | rfl | rfl | rfl | rfl <;> exact ⟨_, _, rfl, by decide⟩
  clear hv3
  k_sweep
  k_fold
  repeat (rename _ ∧ _ => hz9; clear hz9)
  rcases hk3 with rfl | rfl | rfl
  all_goals k_steps
  all_goals (
    refine' hret _ _ _ _ _ _ _ _ _ _ _ _ _ _ _ _ _ _ _ _ ?a1 ?a2 ?a3 ?a4 (news6 ?b1 ?b2 ?b3 ?b4 ?b5 ?b6 ?b7 ?b8) hTk ?a5 ?a6
    (case b1 => k_asm)
    (case b2 => k_mem)
    (case b3 => k_mem)
    (case b4 => k_mem)
    (case b5 => k_mem)
    (case b6 => k_mem)
    (case b7 => k_mem)
    (case b8 => (intro q hq; (repeat (first | exact hq | refine List.Mem.tail _ ?_))))
    (case a1 => assumption)
    (case a2 => assumption)
    (case a3 => assumption)
    (case a4 => assumption)
    (case a5 => exact Nat.le_of_ble_eq_true rfl)
    (case a6 => rfl))
end
end Mine
namespace Mine
theorem clear_depth : True := by w_top off; k_with_none; trivial
section
variable {prog : Program} {w : World} {p : Program} {loose : List Str} {mean : ExcName → Option Value} {mg mb : Str → Option Value}
  {dp un : Nat} {gd : Option (List Code)} {cn : Str} {cs : Scope} {a : Addr} {ccd : Value} {cl : List (Str × Addr)} {outer : List Env} {A₀ : Around} {base h₀ : Heap} {L : Addr} {m : Str → Option Value} {news : List (Addr × Obj)} {s : Shared} {Q E : Value → Shared → Prop}
theorem q_of {b b' : Bool} {s' : Shared} (e : b = b') (h : Q (.bool b) s') : Q (.bool b') s' := e ▸ h
theorem news_tail {h₀ h : Heap} {L : Addr} {q : Addr × Obj} {r : List (Addr × Obj)} (N : News h₀ L h (q :: r)) : News h₀ L h r := fun x hx => N x (.tail _ hx)
theorem test_eq {A : Around} {T T2 : Addr} {tvs : List Value} {isn : Bool} {t2 : Tok} (hT : s.heap.IsTuple T tvs.toArray) (hT2 : s.heap.IsTuple T2 [Value.str (Str.ofString "node") t2].toArray) (hk : TestKind tvs isn) (hu : A.units < cLine) (h : Q (.bool isn) s) :
    wpAny (model prog w) A (compareOp .Eq (.ref T) (.ref T2)) Q E s := rc_test hT hT2 hk hu prog w E Q h
theorem len_t {A : Around} {l : Addr} {vs : List Value} (hl : s.heap.IsTuple l vs.toArray) (hz : vs.length < 2 ^ 62) (h : Q (.int (vs.length : Int) (s.toks + 1)) { s with toks := s.toks + 1 + 1 }) :
    wpAny (model prog w) A (call (.builtin "len") [.ref l]) Q E s :=
  len_tuple hl (by rw [List.size_toArray]; omega) h
local macro_rules | `(tactic| k_room) => `(tactic| ktr_room)
local macro_rules | `(tactic| k_units) => `(tactic| ktr_units)
local macro_rules | `(tactic| k_all) => `(tactic| assumption)
local macro_rules | `(tactic| walk_at "compareOp Eq ref ref") => `(tactic| (k_here; (with_reducible show wpAny _ _ (compareOp CmpOp.Eq (Value.ref _) (Value.ref _)) _ _ _); k_dflt (refine' test_eq ?k3 ?k4 ?k6 ?k7 ?_; (case k3 => exact News.isTup (by k_asm) (by k_mem)); (case k4 => exact News.isTup (by k_asm) (by k_mem)); (case k6 => assumption); (case k7 => ktr_units))))
local macro_rules | `(tactic| walk_at "call builtin:len") => `(tactic| (k_here; (with_reducible show wpAny _ _ (call (Value.builtin "len") [Value.ref _]) _ _ _); k_dflt (refine' len_t ?k1 ?k2 ?_; (case k1 => exact News.isTup (by k_asm) (by k_mem)); (case k2 => omega); k_whole)))
theorem depth_c {st dx T Pp : Addr} {A : Str} {isn : Bool} {tvs pvs : List Value} {tA k1 k2 k3 : Tok}
    (B : Below A₀ base outer h₀) (F : Fr h₀ L s.heap m) (X : (hd.heap_39 w.params).In h₀) (N : News h₀ L s.heap ((st, instObj 213 dx) :: (dx, stepD w.params A tA k1 k2 k3 T Pp) :: (T, tupO tvs) :: (Pp, tupO pvs) :: news)) (T0 : Top p loose mean mg mb h₀) (hk : cs.kind = .function)
    (hTk : TestKind tvs isn) (hpl : pvs.length ≤ 2)
    (hd : dp + 3 < recursionLimit) (hu : un + 32 < cLine)
    (hret : ∀ (h' : Heap) (tk' : Nat), Fr h₀ L h' m → News h₀ L h' ((st, instObj 213 dx) :: (dx, stepD w.params A tA k1 k2 k3 T Pp) :: (T, tupO tvs) :: (Pp, tupO pvs) :: news) →
      Q (.bool (A == Str.ofString "descendant-or-self" && isn && (pvs.length == 0))) { s with heap := h', toks := tk' }) :
    wpAny (model prog w) (ktrTop dp un gd cn cs L a ccd cl outer) (call (.ref 235) [.ref st]) Q E s := by
  refine wpAny_call ?_
  k_dflt ktr_enter
  k_steps
  · have e1 : (A == Str.ofString "descendant-or-self") = true := by assumption
    have e2 : isn = true := by assumption
    refine q_of ?_ (hret _ _ (by assumption) (news_tail (by assumption)))
    rw [e1, e2]
    cases pvs with
    | nil => rfl
    | cons v r =>
      show false = decide _
      exact (decide_eq_false (by simp only [List.length_cons]; omega)).symm
  · have e1 : (A == Str.ofString "descendant-or-self") = true := by assumption
    have e2 : isn = false := by assumption
    refine q_of ?_ (hret _ _ (by assumption) (news_tail (by assumption)))
    rw [e1, e2]
    rfl
  · have e1 : (A == Str.ofString "descendant-or-self") = false := by assumption
    refine q_of ?_ (hret _ _ (by assumption) (by assumption))
    rw [e1]
    rfl
end
end Mine
namespace Mine
theorem clear_prio1 : True := by w_top off; k_with_none; trivial
section
variable {prog : Program} {w : World} {p : Program} {loose : List Str} {mean : ExcName → Option Value} {mg mb : Str → Option Value}
  {dp un : Nat} {gd : Option (List Code)} {cn : Str} {cs : Scope} {a : Addr} {ccd : Value} {cl : List (Str × Addr)} {outer : List Env} {A₀ : Around} {base h₀ : Heap} {L : Addr} {m : Str → Option Value} {news : List (Addr × Obj)} {s : Shared} {Q E : Value → Shared → Prop}
local macro_rules | `(tactic| walk_at $s:str) => `(tactic| k_extra $s)
local macro_rules | `(tactic| k_room) => `(tactic| ktr_room)
local macro_rules | `(tactic| k_units) => `(tactic| ktr_units)
local macro_rules | `(tactic| k_all) => `(tactic| assumption)
def Row (tvs : List Value) (x y : Int) (r : Addr) : Prop :=
  (x = 0 ∧ y = 1 ∧ r = 218 ∧ ((∃ t1 v1 v2, tvs = [.str "name" t1, v1, v2]) ∨ ∃ t1 u t2, tvs = [.str "instruction" t1, .str u t2])) ∨
  (x = -1 ∧ y = 2 ∧ r = 220 ∧ ((∃ t1, tvs = [.str "any" t1]) ∨ (∃ t1, tvs = [.str "node" t1]) ∨ (∃ t1, tvs = [.str "text" t1]) ∨ (∃ t1, tvs = [.str "comment" t1]) ∨ (∃ t1, tvs = [.str "instruction" t1, .none]))) ∨
  (x = -1 ∧ y = 4 ∧ r = 219 ∧ ∃ t1 t2, tvs = [.str "any of" t1, .str "p" t2])
abbrev partD (P : Params) (k1 k2 : Tok) (st : Addr) (b : Bool) : Obj := dictOf [⟨PyData.keyHash P "step", .str "step" k1, .ref st⟩, ⟨PyData.keyHash P "is_deep", .str "is_deep" k2, .bool b⟩] 2
theorem isn_v {A : Around} {v : Value} (h : Q (.bool (!(v == .none))) s) : wpAny (model prog w) A (compareOp .IsNot v .none) Q E s := isNot_none h
theorem lines : True := by
  k_with "call builtin:len" => (k_here; (with_reducible show wpAny _ _ (call (Value.builtin "len") [Value.ref _]) _ _ _); k_dflt (refine' len_v ?k1 ?k2 ?_; (case k1 => exact News.isList (by k_asm) (by k_mem)); (case k2 => omega); k_whole))
  k_with "call builtin:len" => (k_here; (with_reducible show wpAny _ _ (call (Value.builtin "len") [Value.ref _]) _ _ _); k_dflt (refine' len_t ?k1 ?k2 ?_; (case k1 => exact News.isTup (by k_asm) (by k_mem)); (case k2 => omega); k_whole))
  trivial
theorem ref_of {a b : Addr} {s' : Shared} (e : b = a) (h : Q (.ref b) s') : Q (.ref a) s' := e ▸ h
theorem prio_one {pl pt dpt st dx T Pp : Addr} {sv : Value} {A : Str} {b : Bool} {tvs pvs : List Value} {tA k1 k2 k3 k4 k5 : Tok} {c : Nat} {x y : Int} {r : Addr}
    (B : Below A₀ base outer h₀) (F : Fr h₀ L s.heap m) (X : (hd.heap_39 w.params).In h₀) (T0 : Top p loose mean mg mb h₀) (hk : cs.kind = .function)
    (N : News h₀ L s.heap ((pl, listOf [Value.ref pt].toArray c) :: (pt, instObj 259 dpt) :: (dpt, partD w.params k4 k5 st b) :: (st, instObj 213 dx) :: (dx, stepD w.params A tA k1 k2 k3 T Pp) :: (T, tupO tvs) :: (Pp, tupO pvs) :: news))
    (hrow : Row tvs x y r) (hpl : pvs.length ≤ 2)
    (hd : dp + 3 < recursionLimit) (hu : un + 32 < cLine)
    (hret : ∀ (h' : Heap) (tk' : Nat), Fr h₀ L h' m → News h₀ L h' ((pl, listOf [Value.ref pt].toArray c) :: (pt, instObj 259 dpt) :: (dpt, partD w.params k4 k5 st b) :: (st, instObj 213 dx) :: (dx, stepD w.params A tA k1 k2 k3 T Pp) :: (T, tupO tvs) :: (Pp, tupO pvs) :: news) →
      Q (.ref (if sv == .none && !b && pvs.length == 0 then r else 221)) { s with heap := h', toks := tk' }) :
    wpAny (model prog w) (ktrTop dp un gd cn cs L a ccd cl outer) (call (.ref 242) [sv, .ref pl]) Q E s := by
  k_with "exec Assign" => (refine stop ?_)
  k_with "compareOp IsNot" => (k_here; refine isn_v ?_)
  refine wpAny_call ?_
  k_dflt ktr_enter
  k_steps
  · have e1 : b = true := by assumption
    refine ref_of ?_ (hret _ _ (by assumption) (by assumption))
    rw [e1]; simp
  · have e1 : (0 : Int) < pvs.length := by assumption
    refine ref_of ?_ (hret _ _ (by assumption) (by assumption))
    have e2 : (pvs.length == 0) = false := beq_false_of_ne (by omega)
    rw [e2]; simp
  · have e0 : (sv == Value.none) = true := by assumption
    have e1 : b = false := by assumption
    have e3 : ¬ (0 : Int) < pvs.length := by assumption
    have e2 : (pvs.length == 0) = true := beq_iff_eq.mpr (by omega)
    have hret' := fun h' tk' F' N' => ref_of (a := r) (by rw [e0, e1, e2]; rfl) (hret h' tk' F' N')
    clear hret
    unfold Stop
    k_with_none
    rcases hrow with ⟨rfl, rfl, rfl, ⟨t1, v1, v2, rfl⟩ | ⟨t1, u, t2, rfl⟩⟩ | ⟨rfl, rfl, rfl, ⟨t1, rfl⟩ | ⟨t1, rfl⟩ | ⟨t1, rfl⟩ | ⟨t1, rfl⟩ | ⟨t1, rfl⟩⟩ | ⟨rfl, rfl, rfl, t1, t2, rfl⟩
    all_goals k_steps
    all_goals exact hret' _ _ (by assumption) (by assumption)
  · have e0 : (sv == Value.none) = false := by assumption
    refine ref_of ?_ (hret _ _ (by assumption) (by assumption))
    rw [e0]; simp
end
end Mine
namespace Mine
theorem clear_prio2 : True := by w_top off; k_with_none; trivial
section
variable {prog : Program} {w : World} {p : Program} {loose : List Str} {mean : ExcName → Option Value} {mg mb : Str → Option Value}
  {dp un : Nat} {gd : Option (List Code)} {cn : Str} {cs : Scope} {a : Addr} {ccd : Value} {cl : List (Str × Addr)} {outer : List Env} {A₀ : Around} {base h₀ : Heap} {L : Addr} {m : Str → Option Value} {news : List (Addr × Obj)} {s : Shared} {Q E : Value → Shared → Prop}
local macro_rules | `(tactic| walk_at "none at all") => `(tactic| fail)
local macro_rules | `(tactic| walk_at $s:str) => `(tactic| k_extra $s)
local macro_rules | `(tactic| k_room) => `(tactic| ktr_room)
local macro_rules | `(tactic| k_units) => `(tactic| ktr_units)
local macro_rules | `(tactic| k_all) => `(tactic| assumption)
theorem prio_many {pl : Addr} {sv : Value} {ps : List Value} {c : Nat}
    (B : Below A₀ base outer h₀) (F : Fr h₀ L s.heap m) (X : (hd.heap_39 w.params).In h₀) (T0 : Top p loose mean mg mb h₀) (hk : cs.kind = .function)
    (N : News h₀ L s.heap ((pl, listOf ps.toArray c) :: news)) (hps : ps.length ≠ 1) (hps2 : ps.length ≤ 2)
    (hd : dp + 3 < recursionLimit) (hu : un + 32 < cLine)
    (hret : ∀ (h' : Heap) (tk' : Nat), Fr h₀ L h' m → News h₀ L h' ((pl, listOf ps.toArray c) :: news) → Q (.ref 221) { s with heap := h', toks := tk' }) :
    wpAny (model prog w) (ktrTop dp un gd cn cs L a ccd cl outer) (call (.ref 242) [sv, .ref pl]) Q E s := by
  k_with "call builtin:len" => (k_here; (with_reducible show wpAny _ _ (call (Value.builtin "len") [Value.ref _]) _ _ _); k_dflt (refine' len_v ?k1 ?k2 ?_; (case k1 => exact News.isList (by k_asm) (by k_mem)); (case k2 => omega); k_whole))
  k_with "compareOp IsNot" => (k_here; refine isn_v ?_)
  k_with "eval Attribute Subscript" => (refine stop ?_)
  refine wpAny_call ?_
  k_dflt ktr_enter
  k_steps
  k_with_none
  · exact hret _ _ (by assumption) (by assumption)
  · exact absurd ‹((ps.length : Int) = 1)› (by omega)
  · exact hret _ _ (by assumption) (by assumption)
end
end Mine
namespace Mine
theorem clear_tests : True := by w_top off; k_with_none; trivial
section
variable {prog : Program} {w : World} {p : Program} {loose : List Str} {mean : ExcName → Option Value} {mg mb : Str → Option Value}
  {dp un : Nat} {gd : Option (List Code)} {cn : Str} {cs : Scope} {a : Addr} {ccd : Value} {cl : List (Str × Addr)} {outer : List Env} {A₀ : Around} {base h₀ : Heap} {L : Addr} {m : Str → Option Value} {news : List (Addr × Obj)} {s : Shared} {Q E : Value → Shared → Prop}
local macro_rules | `(tactic| walk_at $s:str) => `(tactic| k_extra $s)
local macro_rules | `(tactic| k_room) => `(tactic| ktr_room)
local macro_rules | `(tactic| k_units) => `(tactic| ktr_units)
local macro_rules | `(tactic| k_all) => `(tactic| assumption)
def RowAt (tl : List (Addr × Obj)) (v : Value) : Prop :=
  ∃ (R T P : Addr) (tvs : List Value) (x y : Int) (r : Addr) (tx ty : Tok), v = .ref R ∧ (R, tupO [.ref T, .ref P]) ∈ tl ∧ (T, tupO tvs) ∈ tl ∧ (P, tupO [.int x tx, .int y ty]) ∈ tl ∧ Row tvs x y r
theorem tests_end {g h : Heap} {R0 T0 P0 R1 T1 P1 R2 T2 P2 R3 T3 P3 R4 T4 P4 R5 T5 P5 R6 T6 P6 R7 T7 P7 R8 T8 P8 R9 T9 P9 l : Addr} {a0 b0 c0 u0 v0 a1 b1 c1 u1 v1 a2 u2 v2 a3 b3 u3 v3 a4 u4 v4 a5 u5 v5 a6 u6 v6 a7 u7 v7 a8 b8 u8 v8 a9 b9 u9 v9 : Tok} {c : Nat} {C : Prop}
    (N : News g L h ((l, listOf [Value.ref R0, Value.ref R1, Value.ref R2, Value.ref R3, Value.ref R4, Value.ref R5, Value.ref R6, Value.ref R7, Value.ref R8, Value.ref R9].toArray c) :: (R9, tupO [.ref T9, .ref P9]) :: (P9, tupO [.int (0) u9, .int 1 v9]) :: (T9, tupO [.str "instruction" a9, .str "" b9]) :: (R8, tupO [.ref T8, .ref P8]) :: (P8, tupO [.int (0) u8, .int 1 v8]) :: (T8, tupO [.str "instruction" a8, .str "t" b8]) :: (R7, tupO [.ref T7, .ref P7]) :: (P7, tupO [.int (-1) u7, .int 2 v7]) :: (T7, tupO [.str "instruction" a7, .none]) :: (R6, tupO [.ref T6, .ref P6]) :: (P6, tupO [.int (-1) u6, .int 2 v6]) :: (T6, tupO [.str "comment" a6]) :: (R5, tupO [.ref T5, .ref P5]) :: (P5, tupO [.int (-1) u5, .int 2 v5]) :: (T5, tupO [.str "text" a5]) :: (R4, tupO [.ref T4, .ref P4]) :: (P4, tupO [.int (-1) u4, .int 2 v4]) :: (T4, tupO [.str "node" a4]) :: (R3, tupO [.ref T3, .ref P3]) :: (P3, tupO [.int (-1) u3, .int 4 v3]) :: (T3, tupO [.str "any of" a3, .str "p" b3]) :: (R2, tupO [.ref T2, .ref P2]) :: (P2, tupO [.int (-1) u2, .int 2 v2]) :: (T2, tupO [.str "any" a2]) :: (R1, tupO [.ref T1, .ref P1]) :: (P1, tupO [.int (0) u1, .int 1 v1]) :: (T1, tupO [.str "name" a1, .str "p" b1, .str "a" c1]) :: (R0, tupO [.ref T0, .ref P0]) :: (P0, tupO [.int (0) u0, .int 1 v0]) :: (T0, tupO [.str "name" a0, .str "" b0, .str "a" c0]) :: news)) (hl : ∀ p ∈ news, p.1 < l) (hz : ∀ z ∈ [R9, P9, T9, R8, P8, T8, R7, P7, T7, R6, P6, T6, R5, P5, T5, R4, P4, T4, R3, P3, T3, R2, P2, T2, R1, P1, T1, R0, P0, T0], AllLt z news)
    (k : ∀ (vs : List Value) (tl : List (Addr × Obj)), News g L h ((l, listOf vs.toArray c) :: (tl ++ news)) → News g L h ((l, listOf vs.toArray c) :: news) → (∀ p ∈ news, p.1 < l) → (∀ v ∈ vs, RowAt tl v) → (∀ q ∈ tl, q.2.cls = .type "tuple" ∧ AllLt q.1 news) → vs.length = 10 → C) : C := by
  refine k [.ref R0, .ref R1, .ref R2, .ref R3, .ref R4, .ref R5, .ref R6, .ref R7, .ref R8, .ref R9] ((R9, tupO [.ref T9, .ref P9]) :: (P9, tupO [.int (0) u9, .int 1 v9]) :: (T9, tupO [.str "instruction" a9, .str "" b9]) :: (R8, tupO [.ref T8, .ref P8]) :: (P8, tupO [.int (0) u8, .int 1 v8]) :: (T8, tupO [.str "instruction" a8, .str "t" b8]) :: (R7, tupO [.ref T7, .ref P7]) :: (P7, tupO [.int (-1) u7, .int 2 v7]) :: (T7, tupO [.str "instruction" a7, .none]) :: (R6, tupO [.ref T6, .ref P6]) :: (P6, tupO [.int (-1) u6, .int 2 v6]) :: (T6, tupO [.str "comment" a6]) :: (R5, tupO [.ref T5, .ref P5]) :: (P5, tupO [.int (-1) u5, .int 2 v5]) :: (T5, tupO [.str "text" a5]) :: (R4, tupO [.ref T4, .ref P4]) :: (P4, tupO [.int (-1) u4, .int 2 v4]) :: (T4, tupO [.str "node" a4]) :: (R3, tupO [.ref T3, .ref P3]) :: (P3, tupO [.int (-1) u3, .int 4 v3]) :: (T3, tupO [.str "any of" a3, .str "p" b3]) :: (R2, tupO [.ref T2, .ref P2]) :: (P2, tupO [.int (-1) u2, .int 2 v2]) :: (T2, tupO [.str "any" a2]) :: (R1, tupO [.ref T1, .ref P1]) :: (P1, tupO [.int (0) u1, .int 1 v1]) :: (T1, tupO [.str "name" a1, .str "p" b1, .str "a" c1]) :: (R0, tupO [.ref T0, .ref P0]) :: (P0, tupO [.int (0) u0, .int 1 v0]) :: (T0, tupO [.str "name" a0, .str "" b0, .str "a" c0]) :: []) N (fun q hq => N q ?_) hl (fun v hv => ?_) (fun q hq => ?_) rfl
  · rcases List.mem_cons.mp hq with rfl | hq
    · exact .head _
    · (repeat (first | exact hq | refine List.Mem.tail _ ?_))
  · simp only [List.mem_cons, List.not_mem_nil, or_false] at hv
    rcases hv with rfl | rfl | rfl | rfl | rfl | rfl | rfl | rfl | rfl | rfl
    · exact ⟨_, _, _, _, _, _, _, _, _, rfl, by k_mem, by k_mem, by k_mem, .inl ⟨rfl, rfl, rfl, .inl ⟨_, _, _, rfl⟩⟩⟩
    · exact ⟨_, _, _, _, _, _, _, _, _, rfl, by k_mem, by k_mem, by k_mem, .inl ⟨rfl, rfl, rfl, .inl ⟨_, _, _, rfl⟩⟩⟩
    · exact ⟨_, _, _, _, _, _, _, _, _, rfl, by k_mem, by k_mem, by k_mem, .inr (.inl ⟨rfl, rfl, rfl, .inl ⟨_, rfl⟩⟩)⟩
    · exact ⟨_, _, _, _, _, _, _, _, _, rfl, by k_mem, by k_mem, by k_mem, .inr (.inr ⟨rfl, rfl, rfl, _, _, rfl⟩)⟩
    · exact ⟨_, _, _, _, _, _, _, _, _, rfl, by k_mem, by k_mem, by k_mem, .inr (.inl ⟨rfl, rfl, rfl, .inr (.inl ⟨_, rfl⟩)⟩)⟩
    · exact ⟨_, _, _, _, _, _, _, _, _, rfl, by k_mem, by k_mem, by k_mem, .inr (.inl ⟨rfl, rfl, rfl, .inr (.inr (.inl ⟨_, rfl⟩))⟩)⟩
    · exact ⟨_, _, _, _, _, _, _, _, _, rfl, by k_mem, by k_mem, by k_mem, .inr (.inl ⟨rfl, rfl, rfl, .inr (.inr (.inr (.inl ⟨_, rfl⟩)))⟩)⟩
    · exact ⟨_, _, _, _, _, _, _, _, _, rfl, by k_mem, by k_mem, by k_mem, .inr (.inl ⟨rfl, rfl, rfl, .inr (.inr (.inr (.inr ⟨_, rfl⟩)))⟩)⟩
    · exact ⟨_, _, _, _, _, _, _, _, _, rfl, by k_mem, by k_mem, by k_mem, .inl ⟨rfl, rfl, rfl, .inr ⟨_, _, _, rfl⟩⟩⟩
    · exact ⟨_, _, _, _, _, _, _, _, _, rfl, by k_mem, by k_mem, by k_mem, .inl ⟨rfl, rfl, rfl, .inr ⟨_, _, _, rfl⟩⟩⟩
  · simp only [List.mem_cons, List.not_mem_nil, or_false] at hq
    rcases hq with rfl | rfl | rfl | rfl | rfl | rfl | rfl | rfl | rfl | rfl | rfl | rfl | rfl | rfl | rfl | rfl | rfl | rfl | rfl | rfl | rfl | rfl | rfl | rfl | rfl | rfl | rfl | rfl | rfl | rfl <;> exact ⟨rfl, hz _ (by repeat (first | exact .head _ | refine .tail _ ?_))⟩
theorem tests_c
    (B : Below A₀ base outer h₀) (F : Fr h₀ L s.heap m) (X : (hd.heap_39 w.params).In h₀) (T0 : Top p loose mean mg mb h₀) (hk : cs.kind = .function)
    (N : News h₀ L s.heap news)
    (hd : dp + 3 < recursionLimit) (hu : un + 32 < cLine)
    (hret : ∀ (l : Addr) (c : Nat) (vs : List Value) (tl : List (Addr × Obj)) (h' : Heap) (tk' : Nat), Fr h₀ L h' m → News h₀ L h' ((l, listOf vs.toArray c) :: (tl ++ news)) → News h₀ L h' ((l, listOf vs.toArray c) :: news) → (∀ p ∈ news, p.1 < l) →
      (∀ v ∈ vs, RowAt tl v) → (∀ q ∈ tl, q.2.cls = .type "tuple" ∧ AllLt q.1 news) → vs.length = 10 → Q (.ref l) { s with heap := h', toks := tk' }) :
    wpAny (model prog w) (ktrTop dp un gd cn cs L a ccd cl outer) (call (.ref 317) []) Q E s := by
  refine wpAny_call ?_
  k_dflt ktr_enter
  k_steps
  k_with_none
  rename News h₀ L _ _ => kN9
  refine tests_end kN9 (fun p hp => ?_) (fun z hz => ?_) fun vs tl n1 n2 n3 n4 n5 n6 => hret _ _ vs tl _ _ (by assumption) n1 n2 n3 n4 n5 n6
  · exact tb_ltOf (by tbn_find) p hp
  · simp only [List.mem_cons, List.not_mem_nil, or_false] at hz
    rcases hz with rfl | rfl | rfl | rfl | rfl | rfl | rfl | rfl | rfl | rfl | rfl | rfl | rfl | rfl | rfl | rfl | rfl | rfl | rfl | rfl | rfl | rfl | rfl | rfl | rfl | rfl | rfl | rfl | rfl | rfl <;> first | tbn_find | exact allLt_of (by assumption)
end
end Mine
namespace Mine
section
variable {prog : Program} {w : World} {p : Program} {loose : List Str} {mean : ExcName → Option Value} {mg mb : Str → Option Value}
  {dp un : Nat} {gd : Option (List Code)} {cn : Str} {cs : Scope} {a : Addr} {ccd : Value} {cl : List (Str × Addr)} {outer : List Env} {A₀ : Around} {base h₀ : Heap} {L : Addr} {m : Str → Option Value} {news : List (Addr × Obj)} {s : Shared} {Q E : Value → Shared → Prop}
theorem row_c {src l : Addr} {n c : Nat} {x y : Int} {tx ty : Tok} {vs : List Value} {tl : List (Addr × Obj)} {f : Obj → List (Addr × Obj)}
    (B : Below A₀ base outer h₀) (F : Fr h₀ L s.heap m) (X : (hd.heap_39 w.params).In h₀) (T : Top p loose mean mg mb h₀) (hk : cs.kind = .function)
    (N : News h₀ L s.heap ((l, listOf vs.toArray c) :: (tl ++ news))) (U : ∀ o', Upd src (srcO x y tx ty n) o' news (f o')) (hl : ∀ p ∈ news, p.1 < l) (hrow : ∀ v ∈ vs, RowAt tl v) (htl : ∀ q ∈ tl, q.2.cls = .type "tuple" ∧ AllLt q.1 news) (hlen : vs.length = 10)
    (hx0 : 0 ≤ x) (hy0 : 0 ≤ y) (hy1 : y < 2147483647)
    (hd : dp + 3 < recursionLimit) (hu : un + 32 < cLine)
    (hret : ∀ (R T P : Addr) (tvs : List Value) (x1 y1 : Int) (r : Addr) (tx1 ty1 : Tok) (x' y' : Int) (tx' ty' : Tok) (h' : Heap) (tk' : Nat), Row tvs x1 y1 r → AllLt R news → AllLt T news → AllLt P news → 0 ≤ x' → 0 ≤ y' → y' < 2147483647 → Fr h₀ L h' m →
      News h₀ L h' ((R, tupO [.ref T, .ref P]) :: (T, tupO tvs) :: (P, tupO [.int x1 tx1, .int y1 ty1]) :: f (srcO x' y' tx' ty' n)) → Q (.ref R) { s with heap := h', toks := tk' }) :
    wpAny (model prog w) (ktrTop dp un gd cn cs L a ccd cl outer) (call (.ref 284) [.ref src, .ref l]) Q E s := by
  have hsrc := (upd_mem (U default)).1
  have hmem : (src, srcO x y tx ty n) ∈ ((l, listOf vs.toArray c) :: (tl ++ news)) := .tail _ (List.mem_append_right _ hsrc)
  have hls : @Ne Nat l src := Nat.ne_of_gt (hl _ hsrc)
  refine one_c B F X (news := tl ++ news.filter (fun q => q.1 != src)) (c := c) (vs := vs) (x := x) (y := y) (tx := tx) (ty := ty) (n := n) (fun q hq => ?_) T hk (fun q hq => ?_) hls hx0 hy0 hy1 (by omega) (by omega) hd hu
    fun v x' y' tx' ty' h' tk' h1 h2 h3 h4 F' N' => ?_
  · rcases List.mem_cons.mp hq with rfl | hq
    · exact N _ hmem
    · rcases List.mem_cons.mp hq with rfl | hq
      · exact N _ (.head _)
      · rcases List.mem_append.mp hq with hq | hq
        · exact N _ (.tail _ (List.mem_append_left _ hq))
        · exact N _ (.tail _ (List.mem_append_right _ (List.mem_filter.mp hq).1))
  · rcases List.mem_append.mp hq with hq | hq
    · exact ne_of_news N (o1 := q.2) (.tail _ (List.mem_append_left _ hq)) hmem (by rw [(htl q hq).1]; show Value.type "tuple" ≠ Value.type "list"; decide)
    · simpa using (List.mem_filter.mp hq).2
  · obtain ⟨R, T, P, tvs, x1, y1, r, tx1, ty1, rfl, e1, e2, e3, e4⟩ := hrow v h1
    refine hret R T P tvs x1 y1 r tx1 ty1 x' y' tx' ty' h' tk' e4 (htl _ e1).2 (htl _ e2).2 (htl _ e3).2 h2 h3 h4 F' fun q hq => ?_
    rcases List.mem_cons.mp hq with rfl | hq
    · exact N' _ (.tail _ (.tail _ (List.mem_append_left _ e1)))
    rcases List.mem_cons.mp hq with rfl | hq
    · exact N' _ (.tail _ (.tail _ (List.mem_append_left _ e2)))
    rcases List.mem_cons.mp hq with rfl | hq
    · exact N' _ (.tail _ (.tail _ (List.mem_append_left _ e3)))
    · rcases (upd_mem (U (srcO x' y' tx' ty' n))).2 q hq with rfl | ⟨g1, g2⟩
      · exact N' _ (.head _)
      · exact N' _ (.tail _ (.tail _ (List.mem_append_right _ (List.mem_filter.mpr ⟨g1, by simpa using g2⟩))))
end
end Mine
namespace Mine
theorem noFill_tuple_mul : fillsNumberSlot (.type "tuple") "mul" = pure false :=
  PySem.fillsNumberSlot_seq (id := "tuple.__mul__") (r := some (.builtin "tuple.__rmul__")) F.slot_tuple_mul.lookup (by decide +kernel) F.slot_tuple_rmul.lookup (by decide +kernel)
theorem repeat_tuple : seqRepeat? (.type "tuple") = pure (some (.builtin "tuple.__mul__")) := by
  unfold seqRepeat?
  rw [PySem.seqSlot_of (T := "tuple") (name := "__mul__") (id := "tuple.__mul__") F.slot_tuple_mul.lookup (by decide +kernel), PySem.seqSlot_of (T := "tuple") (name := "__rmul__") (id := "tuple.__rmul__") F.slot_tuple_rmul.lookup (by decide +kernel)]
  rfl
theorem lm_rmul_tup (a : Int) (t : Tok) (l : Addr) (v : Value) :
    Meets (Builtin.«int.__rmul__» ⟨[.int a t, .ref l], []⟩) (fun _ R s => s.heap.get? l = some { cls := .type "tuple", data := .seq #[v] } ∧ R (.ok (.ret Value.notImplemented)) s) :=
  .of_wp fun prog w A R s h => by obtain ⟨hp, g, d, tk, os⟩ := s; obtain ⟨hl, h⟩ := h; wp_walk; exact ⟨_, rfl, h⟩
theorem lm_tup_mul0 (l : Addr) (v : Value) (u : Tok) :
    Meets (Builtin.«tuple.__mul__» ⟨[.ref l, .int 0 u], []⟩) (fun _ R s => s.heap.get? l = some { cls := .type "tuple", data := .seq #[v] } ∧ R (.ok (.ret (Value.ref s.heap.objs.size))) { s with heap := s.heap.push { cls := .type "tuple", data := .seq #[] } }) :=
  .of_wp fun prog w A R s h => by obtain ⟨hp, g, d, tk, os⟩ := s; obtain ⟨hl, h⟩ := h; wp_walk; exact ⟨_, rfl, h⟩
theorem lm_tup_mul1 (l : Addr) (v : Value) (u : Tok) :
    Meets (Builtin.«tuple.__mul__» ⟨[.ref l, .int 1 u], []⟩) (fun _ R s => s.heap.get? l = some { cls := .type "tuple", data := .seq #[v] } ∧ R (.ok (.ret (Value.ref l))) s) :=
  .of_wp fun prog w A R s h => by obtain ⟨hp, g, d, tk, os⟩ := s; obtain ⟨hl, h⟩ := h; wp_walk; exact ⟨_, rfl, h⟩
section
variable {prog : Program} {w : World} {A : Around} {E : Value → Shared → Prop} {s : Shared} {h₀ : Heap} {L : Addr} {m : Str → Option Value} {news : List (Addr × Obj)} {l : Addr} {v : Value} {u : Tok} {Q : Value → Shared → Prop}
theorem tup_mul0 (F0 : Fr h₀ L s.heap m) (N : News h₀ L s.heap news) (hl : (l, tupO [v]) ∈ news)
    (h : ∀ D h', Fr h₀ L h' m → News h₀ L h' ((D, tupO []) :: news) → (∀ p ∈ news, p.1 < D) → Q (.ref D) { s with heap := h' }) : wpAny (model prog w) A (binaryOp .Mult (.ref l) (.int 0 u)) Q E s := by
  have ho := (N _ hl).1
  refine wpAny_binaryOp_repeat_ref (T := "tuple") (U := "int") (by decide) ⟨_, ho, rfl⟩ (fun s' => typeIs_int s' 0 u) noFill_tuple_mul F.fills_int_mul F.slot_int_rmul repeat_tuple F.slot_int_index.lookup
    (call_meets F.slot_int_rmul (typeIs_int s 0 u) F.entry_int_rmul (F.args_int_rmul_2 _ _) (lm_rmul_tup 0 u l v)
      ⟨ho, rfl, ⟨_, ho, rfl⟩, call_meets F.slot_tuple_mul ⟨_, ho, rfl⟩ F.entry_tuple_mul (F.args_tuple_mul_2 _ _) (lm_tup_mul0 l v u) ⟨ho, ?_⟩⟩)
  exact h _ _ (F0.push _) (News.push F0 N _) (fun p hp => Heap.lt_size (N p hp).1)
theorem tup_mul1 (N : News h₀ L s.heap news) (hl : (l, tupO [v]) ∈ news)
    (h : Q (.ref l) s) : wpAny (model prog w) A (binaryOp .Mult (.ref l) (.int 1 u)) Q E s := by
  have ho := (N _ hl).1
  exact wpAny_binaryOp_repeat_ref (T := "tuple") (U := "int") (by decide) ⟨_, ho, rfl⟩ (fun s' => typeIs_int s' 1 u) noFill_tuple_mul F.fills_int_mul F.slot_int_rmul repeat_tuple F.slot_int_index.lookup
    (call_meets F.slot_int_rmul (typeIs_int s 1 u) F.entry_int_rmul (F.args_int_rmul_2 _ _) (lm_rmul_tup 1 u l v)
      ⟨ho, rfl, ⟨_, ho, rfl⟩, call_meets F.slot_tuple_mul ⟨_, ho, rfl⟩ F.entry_tuple_mul (F.args_tuple_mul_2 _ _) (lm_tup_mul1 l v u) ⟨ho, h⟩⟩)
theorem tup_mul {km : Int} (hk : km = 0 ∨ km = 1) (F0 : Fr h₀ L s.heap m) (N : News h₀ L s.heap news) (hl : (l, tupO [v]) ∈ news)
    (h : ∀ D h' pvs, Fr h₀ L h' m → News h₀ L h' ((D, tupO pvs) :: news) → @LE.le Nat _ l D → pvs.length = km.toNat → Q (.ref D) { s with heap := h' }) : wpAny (model prog w) A (binaryOp .Mult (.ref l) (.int km u)) Q E s := by
  rcases hk with rfl | rfl
  · exact tup_mul0 F0 N hl fun D h' F' N' hlt => h D h' [] F' N' (Nat.le_of_lt (hlt _ hl)) rfl
  · refine tup_mul1 N hl ?_
    have := h l s.heap [v] F0 (fun q hq => by rcases List.mem_cons.mp hq with rfl | hq; exact N _ hl; exact N _ hq) (Nat.le_refl _) rfl
    obtain ⟨hp, g, d, tk, os⟩ := s
    exact this
end
end Mine
namespace Mine
theorem clear_prior : True := by w_top off; k_with_none; trivial
section
variable {prog : Program} {w : World} {p : Program} {loose : List Str} {mean : ExcName → Option Value} {mg mb : Str → Option Value}
  {dp un : Nat} {gd : Option (List Code)} {cn : Str} {cs : Scope} {a : Addr} {ccd : Value} {cl : List (Str × Addr)} {outer : List Env} {A₀ : Around} {base h₀ : Heap} {L : Addr} {m : Str → Option Value} {news : List (Addr × Obj)} {s : Shared} {Q E : Value → Shared → Prop}
local macro_rules | `(tactic| walk_at "none at all") => `(tactic| fail)
local macro_rules | `(tactic| walk_at $s:str) => `(tactic| k_extra $s)
local macro_rules | `(tactic| k_room) => `(tactic| ktr_room)
local macro_rules | `(tactic| k_units) => `(tactic| ktr_units)
local macro_rules | `(tactic| k_all) => `(tactic| assumption)
def PartIn (P : Params) (sv : Value) (ps : List Value) (a b : Int) (rest : List (Addr × Obj)) : Prop :=
  ∃ (pt dpt st dx T Pp : Addr) (A : Str) (bd : Bool) (tvs pvs : List Value) (tA k1 k2 k3 k4 k5 : Tok) (x y : Int) (r : Addr), ps = [.ref pt] ∧ (pt, instObj 259 dpt) ∈ rest ∧ (dpt, partD P k4 k5 st bd) ∈ rest ∧ (st, instObj 213 dx) ∈ rest ∧
    (dx, stepD P A tA k1 k2 k3 T Pp) ∈ rest ∧ (T, tupO tvs) ∈ rest ∧ (Pp, tupO pvs) ∈ rest ∧ Row tvs x y r ∧ pvs.length ≤ 2 ∧ (a, b) = (if sv == .none && !bd && pvs.length == 0 then (x, y) else (1, 2))
def PrJ (P : Params) (sv : Value) (src pl : Addr) (n : Nat) (m₀ : Str → Option Value) (i : Nat) (m₁ : Str → Option Value) (nx : List (Addr × Obj)) : Prop :=
  ∃ (x y : Int) (tx ty : Tok) (c : Nat) (ps : List Value) (W : Addr) (a b : Int) (ta tb : Tok) (rest : List (Addr × Obj)) (u1 u2 u3 u4 u5 : Option Value),
    nx = (src, srcO x y tx ty n) :: (pl, listOf ps.toArray c) :: rest ∧
    m₁ = (fun z => if z = Str.ofString "turn" then u1 else if z = Str.ofString "test" then u2 else if z = Str.ofString "plain" then u3 else if z = Str.ofString "many" then u4 else if z = Str.ofString "is_deep" then u5 else if z = Str.ofString "worth" then some (.ref W) else m₀ z) ∧
    0 ≤ x ∧ 0 ≤ y ∧ y < 2147483647 ∧ ps.length = i ∧ (W, tupO [.int a ta, .int b tb]) ∈ rest ∧ (∀ p ∈ rest, p.1 ≠ src) ∧ (∀ p ∈ rest, p.1 ≠ pl) ∧ (i = 1 → PartIn P sv ps a b rest)
theorem frame6 {m₁ : Str → Option Value} {v : Option Value} (m₀ : Str → Option Value) (hw : m₁ (Str.ofString "worth") = v) (h : ∀ z, z ≠ Str.ofString "turn" → z ≠ Str.ofString "test" → z ≠ Str.ofString "plain" → z ≠ Str.ofString "many" → z ≠ Str.ofString "is_deep" → z ≠ Str.ofString "worth" → m₁ z = m₀ z) :
    m₁ = fun z => if z = Str.ofString "turn" then m₁ (Str.ofString "turn") else if z = Str.ofString "test" then m₁ (Str.ofString "test") else if z = Str.ofString "plain" then m₁ (Str.ofString "plain") else if z = Str.ofString "many" then m₁ (Str.ofString "many") else if z = Str.ofString "is_deep" then m₁ (Str.ofString "is_deep") else if z = Str.ofString "worth" then v else m₀ z := by
  funext z
  by_cases h1 : z = Str.ofString "turn"
  · rw [if_pos h1, h1]
  rw [if_neg h1]
  by_cases h2 : z = Str.ofString "test"
  · rw [if_pos h2, h2]
  rw [if_neg h2]
  by_cases h3 : z = Str.ofString "plain"
  · rw [if_pos h3, h3]
  rw [if_neg h3]
  by_cases h4 : z = Str.ofString "many"
  · rw [if_pos h4, h4]
  rw [if_neg h4]
  by_cases h5 : z = Str.ofString "is_deep"
  · rw [if_pos h5, h5]
  rw [if_neg h5]
  by_cases h6 : z = Str.ofString "worth"
  · rw [if_pos h6, h6, hw]
  rw [if_neg h6]
  exact h z h1 h2 h3 h4 h5 h6
theorem pr_loop {A : Around} {env : Env} {body : List Stmt} {r src pl W : Addr} {sv : Value} {n : Nat} {x y k3 : Int} {tx ty t₀ u₀ v₀ ta tb : Tok} {m₀ : Str → Option Value} {Q : Flow → Shared → Prop}
    (hh : A.handled = none) (hr : IsRange s.heap r 0 k3 1 t₀ u₀ v₀) (hk3 : k3 = 0 ∨ k3 = 1 ∨ k3 = 2) (F : Fr h₀ env.locals s.heap m₀) (N : News h₀ env.locals s.heap ((src, srcO x y tx ty n) :: (pl, listOf [].toArray 0) :: (W, tupO [.int 1 ta, .int 2 tb]) :: news))
    (hw : m₀ (Str.ofString "worth") = some (.ref W)) (hx : 0 ≤ x) (hy : 0 ≤ y) (hy1 : y < 2147483647) (hs : ∀ p ∈ news, p.1 ≠ src) (hp : ∀ p ∈ news, p.1 ≠ pl) (hWs : @Ne Nat W src) (hWp : @Ne Nat W pl) (hps : @Ne Nat pl src)
    (turn : ∀ (i : Nat) (k : Int) (t : Tok) (x y : Int) (tx ty : Tok) (c : Nat) (ps : List Value) (W : Addr) (rest : List (Addr × Obj)) (u2 u3 u4 u5 : Option Value) (h : Heap) (tk : Nat) (own : List (Addr × Obj)),
      TbOff own ((src, srcO x y tx ty n) :: (pl, listOf ps.toArray c) :: rest) → 0 ≤ x → 0 ≤ y → y < 2147483647 → ps.length = i → i ≤ 1 → @Ne Nat pl src → (∀ p ∈ rest ++ own, p.1 ≠ src) → (∀ p ∈ rest ++ own, p.1 ≠ pl) →
      Fr h₀ env.locals h (fun z => if z = Str.ofString "turn" then some (.int k t) else if z = Str.ofString "test" then u2 else if z = Str.ofString "plain" then u3 else if z = Str.ofString "many" then u4 else if z = Str.ofString "is_deep" then u5 else if z = Str.ofString "worth" then some (.ref W) else m₀ z) →
      News h₀ env.locals h ((src, srcO x y tx ty n) :: (pl, listOf ps.toArray c) :: (rest ++ own)) →
      wpAny (model prog w) A (execs body env) (TbPost h₀ env.locals (PrJ w.params sv src pl n m₀ (i + 1)) own { s with heap := h, toks := tk } Q) E { s with heap := h, toks := tk })
    (done : ∀ (x y : Int) (tx ty : Tok) (c : Nat) (ps : List Value) (W : Addr) (a b : Int) (ta tb : Tok) (rest : List (Addr × Obj)) (u1 u2 u3 u4 u5 : Option Value) (h : Heap) (tk : Nat),
      ps.length ≤ 2 → (W, tupO [.int a ta, .int b tb]) ∈ rest → (ps.length = 1 → PartIn w.params sv ps a b rest) →
      Fr h₀ env.locals h (fun z => if z = Str.ofString "turn" then u1 else if z = Str.ofString "test" then u2 else if z = Str.ofString "plain" then u3 else if z = Str.ofString "many" then u4 else if z = Str.ofString "is_deep" then u5 else if z = Str.ofString "worth" then some (.ref W) else m₀ z) →
      News h₀ env.locals h ((src, srcO x y tx ty n) :: (pl, listOf ps.toArray c) :: rest) → Q .next { s with heap := h, toks := tk }) :
    wpAny (model prog w) A (pyIter (.ref r)) (fun it s₂ => LoopAtV prog w A h₀ env (Str.ofString "turn") body Q E it s₂) E s := by
  refine tbr_invG (n := (k3 - 0).toNat) (PrJ w.params sv src pl n m₀) hh hr (small_one (by omega) (by omega) (by omega) (by omega)) (rangeSize_nat _ _) F N ?hj ?turn ?done
  case hj =>
    refine ⟨x, y, tx, ty, 0, [], W, 1, 2, ta, tb, _, _, _, _, _, _, rfl, frame6 m₀ hw (fun _ _ _ _ _ _ _ => rfl), hx, hy, hy1, rfl, .head _, fun q hq => ?_, fun q hq => ?_, fun h => absurd h (by decide)⟩
    · rcases List.mem_cons.mp hq with rfl | hq
      · exact hWs
      · exact hs _ hq
    · rcases List.mem_cons.mp hq with rfl | hq
      · exact hWp
      · exact hp _ hq
  case turn =>
    intro i k t m1 nx h4 tk4 own hk4 hoff hJ F4 N5
    obtain ⟨x4, y4, tx4, ty4, c4, ps, W, a4, b4, ta4, tb4, rest, z1, z2, z3, z4, z5, rfl, rfl, hx4, hy4, hy4', hpl, hW, hs4, hp4, hpart⟩ := hJ
    have hi : i < (k3 - 0).toNat := by
      have := (List.getElem?_eq_some_iff.mp hk4).1
      rwa [rangeKs_length] at this
    refine turn i k t x4 y4 tx4 ty4 c4 ps W rest z2 z3 z4 z5 h4 tk4 own hoff hx4 hy4 hy4' hpl (by omega) hps (fun q hq => ?_) (fun q hq => ?_) ?_ N5
    · rcases List.mem_append.mp hq with hq | hq
      · exact hs4 _ hq
      · exact hoff q hq _ (.head _)
    · rcases List.mem_append.mp hq with hq | hq
      · exact hp4 _ hq
      · exact hoff q hq _ (.tail _ (.head _))
    · have e : (fun z => if z = Str.ofString "turn" then some (Value.int k t) else if z = Str.ofString "test" then z2 else if z = Str.ofString "plain" then z3 else if z = Str.ofString "many" then z4 else if z = Str.ofString "is_deep" then z5 else if z = Str.ofString "worth" then some (.ref W) else m₀ z) = fun y => if y = Str.ofString "turn" then some (Value.int k t) else (if y = Str.ofString "turn" then z1 else if y = Str.ofString "test" then z2 else if y = Str.ofString "plain" then z3 else if y = Str.ofString "many" then z4 else if y = Str.ofString "is_deep" then z5 else if y = Str.ofString "worth" then some (.ref W) else m₀ y) := by
        funext z
        by_cases h1 : z = Str.ofString "turn"
        · rw [if_pos h1, if_pos h1]
        · rw [if_neg h1, if_neg h1, if_neg h1]
      rw [e]; exact F4
  case done =>
    rintro m1 nx h4 tk4 ⟨x4, y4, tx4, ty4, c4, ps, W, a4, b4, ta4, tb4, rest, z1, z2, z3, z4, z5, rfl, rfl, hx4, hy4, hy4', hpl, hW, hs4, hp4, hpart⟩ F4 N5
    exact done x4 y4 tx4 ty4 c4 ps W a4 b4 ta4 tb4 rest z1 z2 z3 z4 z5 h4 tk4 (by omega) hW (fun h => hpart (by omega)) F4 N5
theorem pr_end {P : Params} {sv : Value} {g h' : Heap} {L' src pl W pt dpt st dx T Pp : Addr} {n i c c' tk : Nat} {o : Obj} {m₀ m₂ : Str → Option Value} {nn rest own : List (Addr × Obj)} {s₁ : Shared} {x y a b x1 y1 : Int} {r : Addr} {tx ty ta tb tA k1 k2 k3 k4 k5 : Tok} {ps tvs pvs : List Value} {A : Str} {bd : Bool}
    (F : Fr g L' h' m₂) (N : News g L' h' nn) (hx : 0 ≤ x) (hy : 0 ≤ y) (hy1 : y < 2147483647) (hps : ps.length = i) (hs4 : ∀ p ∈ rest, p.1 ≠ src) (hp4 : ∀ p ∈ rest, p.1 ≠ pl) (hRow : Row tvs x1 y1 r) (hpv : pvs.length ≤ 2)
    (hoff : TbOff own ((src, o) :: (pl, listOf ps.toArray c') :: rest)) (hT : @LT.lt Nat _ src T) (hT2 : @LT.lt Nat _ pl T) (hT3 : AllLt T (rest ++ own)) (hP1 : @LT.lt Nat _ T dx) (hP2 : @LT.lt Nat _ dx st) (hP3 : @LT.lt Nat _ T dpt) (hP4 : @LT.lt Nat _ dpt pt)
    (hPp1 : @LT.lt Nat _ src Pp) (hPp2 : @LT.lt Nat _ pl Pp) (hPp3 : AllLt Pp (rest ++ own)) (hW1 : @LT.lt Nat _ src W) (hW2 : @LT.lt Nat _ pl W) (hW3 : AllLt W (rest ++ own))
    (e0 : (src, srcO x y tx ty n) ∈ nn) (e1 : (pl, listOf (ps ++ [Value.ref pt]).toArray c) ∈ nn) (e2 : (W, tupO [.int a ta, .int b tb]) ∈ nn) (e3 : (pt, instObj 259 dpt) ∈ nn) (e4 : (dpt, partD P k4 k5 st bd) ∈ nn) (e5 : (st, instObj 213 dx) ∈ nn)
    (e6 : (dx, stepD P A tA k1 k2 k3 T Pp) ∈ nn) (e7 : (T, tupO tvs) ∈ nn) (e8 : (Pp, tupO pvs) ∈ nn) (e9 : ∀ q ∈ rest ++ own, q ∈ nn)
    (hw : m₂ (Str.ofString "worth") = some (.ref W)) (hm : ∀ z, z ≠ Str.ofString "turn" → z ≠ Str.ofString "test" → z ≠ Str.ofString "plain" → z ≠ Str.ofString "many" → z ≠ Str.ofString "is_deep" → z ≠ Str.ofString "worth" → m₂ z = m₀ z)
    (hab : (a, b) = (if sv == .none && !bd && pvs.length == 0 then (x1, y1) else (1, 2))) :
    TbEnd g L' (PrJ P sv src pl n m₀ (i + 1)) own s₁ { s₁ with heap := h', toks := tk } := by
  have hdx : @LT.lt Nat _ T dx := hP1
  have hst : @LT.lt Nat _ T st := Nat.lt_trans hP1 hP2
  have hdp : @LT.lt Nat _ T dpt := hP3
  have hpt : @LT.lt Nat _ T pt := Nat.lt_trans hP3 hP4
  have ab : ∀ q ∈ [(W, tupO [.int a ta, .int b tb]), (pt, instObj 259 dpt), (dpt, partD P k4 k5 st bd), (st, instObj 213 dx), (dx, stepD P A tA k1 k2 k3 T Pp), (T, tupO tvs), (Pp, tupO pvs)],
      q ∈ nn ∧ @LT.lt Nat _ src q.1 ∧ @LT.lt Nat _ pl q.1 ∧ AllLt q.1 (rest ++ own) := by
    intro q hq
    simp only [List.mem_cons, List.not_mem_nil, or_false] at hq
    rcases hq with rfl | rfl | rfl | rfl | rfl | rfl | rfl
    · exact ⟨e2, hW1, hW2, hW3⟩
    · exact ⟨e3, Nat.lt_trans hT hpt, Nat.lt_trans hT2 hpt, tbn_up hpt hT3⟩
    · exact ⟨e4, Nat.lt_trans hT hdp, Nat.lt_trans hT2 hdp, tbn_up hdp hT3⟩
    · exact ⟨e5, Nat.lt_trans hT hst, Nat.lt_trans hT2 hst, tbn_up hst hT3⟩
    · exact ⟨e6, Nat.lt_trans hT hdx, Nat.lt_trans hT2 hdx, tbn_up hdx hT3⟩
    · exact ⟨e7, hT, hT2, hT3⟩
    · exact ⟨e8, hPp1, hPp2, hPp3⟩
  refine ⟨h', tk, m₂, nn, (src, srcO x y tx ty n) :: (pl, listOf (ps ++ [Value.ref pt]).toArray c) :: ([(W, tupO [.int a ta, .int b tb]), (pt, instObj 259 dpt), (dpt, partD P k4 k5 st bd), (st, instObj 213 dx), (dx, stepD P A tA k1 k2 k3 T Pp), (T, tupO tvs), (Pp, tupO pvs)] ++ rest), rfl, F, N, fun q hq => ?_, fun q hq => e9 q (List.mem_append.mpr (.inr hq)), fun p hp q hq => ?_,
    x, y, tx, ty, c, _, W, a, b, ta, tb, _, _, _, _, _, _, rfl, frame6 m₀ hw hm, hx, hy, hy1, by rw [List.length_append]; show _ + 1 = _; omega, .head _, fun q hq => ?_, fun q hq => ?_, fun hi => ?_⟩
  · rcases List.mem_cons.mp hq with rfl | hq
    · exact e0
    rcases List.mem_cons.mp hq with rfl | hq
    · exact e1
    rcases List.mem_append.mp hq with hq | hq
    · exact (ab q hq).1
    · exact e9 q (List.mem_append.mpr (.inl hq))
  · rcases List.mem_cons.mp hq with rfl | hq
    · exact hoff p hp (src, o) (.head _)
    rcases List.mem_cons.mp hq with rfl | hq
    · exact hoff p hp (pl, listOf ps.toArray c') (.tail _ (.head _))
    rcases List.mem_append.mp hq with hq | hq
    · exact Nat.ne_of_lt (tb_ltOf (ab q hq).2.2.2 p (List.mem_append.mpr (.inr hp)))
    · exact hoff p hp q (.tail _ (.tail _ hq))
  · rcases List.mem_append.mp hq with hq | hq
    · exact Nat.ne_of_gt (ab q hq).2.1
    · exact fun e => hs4 q hq e
  · rcases List.mem_append.mp hq with hq | hq
    · exact Nat.ne_of_gt (ab q hq).2.2.1
    · exact fun e => hp4 q hq e
  · have : ps = [] := List.length_eq_zero_iff.mp (by omega)
    subst this
    exact ⟨pt, dpt, st, dx, T, Pp, A, bd, tvs, pvs, tA, k1, k2, k3, k4, k5, x1, y1, r, rfl, by k_mem, by k_mem, by k_mem, by k_mem, by k_mem, by k_mem, hRow, hpv, hab⟩
theorem tbn_ule {d a : Addr} (h : @LE.le Nat _ d a) : ∀ {l : List (Addr × Obj)}, AllLt d l → AllLt a l
  | [], _ => trivial
  | _ :: _, k => ⟨Nat.lt_of_lt_of_le k.1 h, tbn_ule h k.2⟩
theorem hab_plain {sv : Value} {km d x y : Int} {pvs : List Value} (h1 : (sv == .none) = true) (h2 : km = 0) (h3 : ¬ d = 0) (h4 : pvs.length = km.toNat) : (x, y) = if sv == .none && !(d == 0) && pvs.length == 0 then (x, y) else (1, 2) := by
  subst h2
  have e1 : (d == 0) = false := beq_false_of_ne h3
  have e2 : (pvs.length == 0) = true := beq_iff_eq.mpr h4
  rw [h1, e1, e2]; rfl
theorem hab_sv {sv : Value} {d x y : Int} {pvs : List Value} (h1 : (sv == .none) = false) : ((1 : Int), (2 : Int)) = if sv == .none && !(d == 0) && pvs.length == 0 then (x, y) else (1, 2) := by
  rw [h1]; rfl
theorem hab_d {sv : Value} {d x y : Int} {pvs : List Value} (h1 : d = 0) : ((1 : Int), (2 : Int)) = if sv == .none && !(d == 0) && pvs.length == 0 then (x, y) else (1, 2) := by
  subst h1
  cases (sv == .none) <;> rfl
theorem hab_km {sv : Value} {km d x y : Int} {pvs : List Value} (h2 : km = 0 ∨ km = 1) (h3 : ¬ km = 0) (h4 : pvs.length = km.toNat) : ((1 : Int), (2 : Int)) = if sv == .none && !(d == 0) && pvs.length == 0 then (x, y) else (1, 2) := by
  have e2 : (pvs.length == 0) = false := beq_false_of_ne (by omega)
  rw [e2, Bool.and_false]; rfl
theorem tup_eq2 {A : Around} {p q : Addr} {a b : Int} {t1 t2 t3 t4 : Tok} (hp : IsTup s.heap p [Value.int a t1, .int b t2].toArray) (hq : IsTup s.heap q [Value.int a t3, .int b t4].toArray) (hu : A.units < cLine) (h : Q (.bool true) s) : wpAny (model prog w) A (compareOp .Eq (.ref p) (.ref q)) Q E s := by
  refine PySem.SeqAt.eq_tupleAt (e := fun _ => true) hp hq hu (fun j h1 h2 => ?_) h
  match j, h1, h2 with
  | 0, _, _ => have e := PySem.SeqAt.EqAt.int_int (A := A.in1) (s := s) a t1 a t3; rw [beq_self_eq_true] at e; exact e
  | 1, _, _ => have e := PySem.SeqAt.EqAt.int_int (A := A.in1) (s := s) b t2 b t4; rw [beq_self_eq_true] at e; exact e
  | n + 2, h1, _ => exact absurd h1 (by simp)
theorem worth_eq {sv : Value} {bd : Bool} {pvs tvs : List Value} {a b x1 y1 : Int} {r : Addr} (hRow : Row tvs x1 y1 r) (hab : (a, b) = (if sv == .none && !bd && pvs.length == 0 then (x1, y1) else (1, 2))) :
    ∃ rr, (if sv == .none && !bd && pvs.length == 0 then r else 221) = rr ∧ ((rr = 218 ∧ a = 0 ∧ b = 1) ∨ (rr = 219 ∧ a = -1 ∧ b = 4) ∨ (rr = 220 ∧ a = -1 ∧ b = 2) ∨ (rr = 221 ∧ a = 1 ∧ b = 2)) := by
  refine ⟨_, rfl, ?_⟩
  cases hc : (sv == .none && !bd && pvs.length == 0) with
  | true =>
    rw [hc] at hab
    obtain ⟨rfl, rfl⟩ := Prod.mk.inj hab
    rcases hRow with ⟨h1, h2, h3, _⟩ | ⟨h1, h2, h3, _⟩ | ⟨h1, h2, h3, _⟩
    · exact .inl ⟨h3, h1, h2⟩
    · exact .inr (.inr (.inl ⟨h3, h1, h2⟩))
    · exact .inr (.inl ⟨h3, h1, h2⟩)
  | false =>
    rw [hc] at hab
    obtain ⟨rfl, rfl⟩ := Prod.mk.inj hab
    exact .inr (.inr (.inr ⟨rfl, rfl, rfl⟩))
theorem news_one {g h : Heap} {L' : Addr} {nn : List (Addr × Obj)} {p0 p1 p2 p3 p4 p5 p6 p7 : Addr × Obj} (N : News g L' h nn) (e0 : p0 ∈ nn) (e1 : p1 ∈ nn) (e2 : p2 ∈ nn) (e3 : p3 ∈ nn) (e4 : p4 ∈ nn) (e5 : p5 ∈ nn) (e6 : p6 ∈ nn) (e7 : p7 ∈ nn) :
    News g L' h (p0 :: p1 :: p2 :: p3 :: p4 :: p5 :: p6 :: [p7]) := fun q hq => by
  simp only [List.mem_cons, List.not_mem_nil, or_false] at hq
  rcases hq with rfl | rfl | rfl | rfl | rfl | rfl | rfl | rfl <;> exact N _ (by assumption)
theorem news_start {h₀ h : Heap} {L : Addr} {p1 p2 p3 p4 p5 p6 p7 p8 p9 : Addr × Obj} {r : List (Addr × Obj)} (N : News h₀ L h (p1 :: p2 :: p3 :: p4 :: p5 :: p6 :: p7 :: p8 :: p9 :: r)) : News h₀ L h (p9 :: p4 :: p3 :: r) := fun q hq => by
  rcases List.mem_cons.mp hq with rfl | hq
  · exact N _ (by k_mem)
  rcases List.mem_cons.mp hq with rfl | hq
  · exact N _ (by k_mem)
  rcases List.mem_cons.mp hq with rfl | hq
  · exact N _ (by k_mem)
  · exact N _ (by repeat (first | exact hq | refine List.Mem.tail _ ?_))
theorem lines2 : True := by
  k_with_none
  k_with "call ref" => (k_here; (show wpAny _ _ (call (Value.ref 277) _) _ _ _); k_dflt (
    refine' take_u ?k1 ?k2 ?k3 ?k4 ?k5 ?k6 ?k7 ?k8 ?k9 ?k10 ?k11 ?k12 ?k13 ?k14 ?_; (case k1 => k_asm); (case k2 => k_asm); (case k3 => k_asm); (case k4 => k_asm); (case k5 => k_asm); (case k6 => first | exact rfl | assumption);
    (case k7 => (intro o9; k_upd)); (case k8 => k_asm); (case k9 => k_asm); (case k10 => k_asm); (case k11 => first | decide | omega); (case k12 => first | decide | omega); (case k13 => ktr_room); (case k14 => ktr_units); k_whole); intro d' td' x' y' tx' ty' h' tk' hd0' hd1' hx0' hy0' hy1' F' N'; (try dsimp only at N'); (try dsimp only); (try k_sweep); (try k_fold))
  k_with "call ref" => (k_here; (show wpAny _ _ (call (Value.ref 284) _) _ _ _); k_dflt (
    refine' one_u ?k1 ?k2 ?k3 ?k4 ?k5 ?k6 ?k7 ?kt ?ks ?k8 ?k9 ?k10 ?k11 ?k12 ?k13 ?k14 ?_; (case k1 => k_asm); (case k2 => k_asm); (case k3 => k_asm); (case k4 => k_asm); (case k5 => k_asm); (case k6 => first | exact rfl | assumption);
    (case k7 => (intro o9; k_upd)); (case kt => k_mem); (case ks => (refine neN ?_; omega)); (case k8 => k_asm); (case k9 => k_asm); (case k10 => k_asm); (case k11 => exact Nat.le_of_ble_eq_true rfl); (case k12 => exact Nat.le_of_ble_eq_true rfl); (case k13 => ktr_room); (case k14 => ktr_units); k_whole); refine stop ?_)
  k_with "call type:range" => (refine stop ?_)
  k_with "call ref" => ((show wpAny _ _ (call (Value.ref 317) _) _ _ _); refine stop ?_)
  trivial
theorem prior_c {src : Addr} {n : Nat} {x y : Int} {tx ty : Tok}
    (B : Below A₀ base outer h₀) (F : Fr h₀ L s.heap m) (X : (hd.heap_39 w.params).In h₀) (N : News h₀ L s.heap ((src, srcO x y tx ty n) :: news)) (T : Top p loose mean mg mb h₀) (hk : cs.kind = .function)
    (hne : ∀ p ∈ news, p.1 ≠ src) (hx0 : 0 ≤ x) (hy0 : 0 ≤ y) (hy1 : y < 2147483647)
    (hd : dp + 6 < recursionLimit) (hu : un + 64 < cLine)
    (hret : ∀ (news' : List (Addr × Obj)) (h' : Heap) (tk' : Nat), Fr h₀ L h' m → News h₀ L h' news' → Q (.bool true) { s with heap := h', toks := tk' }) :
    wpAny (model prog w) (ktrTop dp un gd cn cs L a ccd cl outer) (call (.ref 324) [.ref src]) Q E s := by
  refine wpAny_call ?_
  k_dflt ktr_enter
  k_steps
  unfold Stop
  intro sv x1 y1 tx1 ty1 h1 tk1 hv1 hx1 hy1 hy1' F1 N1
  try dsimp only at N1
  clear hv1
  k_sweep
  k_fold
  k_steps
  unfold Stop
  intro v2 x2 y2 tx2 ty2 h2 tk2 hv2 hx2 hy2 hy2' F2 N2
  try dsimp only at N2
  obtain ⟨k3, t3, rfl, hk3⟩ : ∃ k3 t3, v2 = .int k3 t3 ∧ (k3 = 0 ∨ k3 = 1 ∨ k3 = 2) := by
    simp only [List.mem_cons, List.not_mem_nil, or_false] at hv2
    rcases hv2 with rfl | rfl | rfl | rfl | rfl <;> exact ⟨_, _, rfl, by decide⟩
  clear hv2
  k_sweep
  k_fold
  k_steps
  unfold Stop
  rename Fr _ _ _ _ => fr9
  rename News _ _ _ _ => nw9
  refine range1_rows fr9 nw9 ?_
  intro h3 tk3 t5 u5 v5 R3 F3 N3 _
  clear fr9 nw9
  have N4 := news_start N3
  clear N3
  refine pr_loop (sv := sv) rfl R3 hk3 F3 N4 rfl (by assumption) (by assumption) (by assumption) hne ?hp (by omega) (by omega) (by omega) ?turn ?done
  case hp => exact tbn_neAll (by tbn_find)
  case turn =>
    clear N4
    intro i k t x4 y4 tx4 ty4 c4 ps W rest z2 z3 z4 z5 h4 tk4 own hoff hx4 hy4 hy4' hpl hi hps hs4 hp4 F4 N5
    clear R3 F3
    k_fold
    k_steps
    unfold Stop
    k_with "call ref" => ((show wpAny _ _ (call (Value.ref 284) _) _ _ _); refine stop ?_)
    rename News _ _ _ (_ :: _ :: (_ ++ _)) => N6
    k_dflt (refine' tests_c ?k1 ?k2 ?k3 ?k4 ?k5 N6 ?k7 ?k8 ?_; (case k1 => k_asm); (case k2 => k_asm); (case k3 => k_asm); (case k4 => k_asm); (case k5 => first | exact rfl | assumption); (case k7 => ktr_room); (case k8 => ktr_units); k_whole)
    intro l6 c6 vs6 tl6 h6 tk6 F6 N7 N8 hl6 hrow htl hlen
    k_fold
    k_steps
    unfold Stop
    clear N8
    k_with_none
    k_with "call ref" => (k_here; (show wpAny _ _ (call (Value.ref 277) _) _ _ _); k_dflt (
      refine' take_u ?k1 ?k2 ?k3 ?k4 ?k5 ?k6 ?k7 ?k8 ?k9 ?k10 ?k11 ?k12 ?k13 ?k14 ?_; (case k1 => k_asm); (case k2 => k_asm); (case k3 => k_asm); (case k4 => k_asm); (case k5 => k_asm); (case k6 => first | exact rfl | assumption);
      (case k7 => (intro o9; k_upd)); (case k8 => k_asm); (case k9 => k_asm); (case k10 => k_asm); (case k11 => first | decide | omega); (case k12 => first | decide | omega); (case k13 => ktr_room); (case k14 => ktr_units); k_whole); intro d' td' x' y' tx' ty' h' tk' hd0' hd1' hx0' hy0' hy1' F' N'; (try dsimp only at N'); (try dsimp only); (try k_sweep); (try k_fold))
    k_with "call ref" => (k_here; (show wpAny _ _ (call (Value.ref 284) _) _ _ _); k_dflt (
      refine' one_u ?k1 ?k2 ?k3 ?k4 ?k5 ?k6 ?k7 ?kt ?ks ?k8 ?k9 ?k10 ?k11 ?k12 ?k13 ?k14 ?_; (case k1 => k_asm); (case k2 => k_asm); (case k3 => k_asm); (case k4 => k_asm); (case k5 => k_asm); (case k6 => first | exact rfl | assumption);
      (case k7 => (intro o9; k_upd)); (case kt => k_mem); (case ks => (refine neN ?_; omega)); (case k8 => k_asm); (case k9 => k_asm); (case k10 => k_asm); (case k11 => exact Nat.le_of_ble_eq_true rfl); (case k12 => exact Nat.le_of_ble_eq_true rfl); (case k13 => ktr_room); (case k14 => ktr_units); k_whole); refine stop ?_)
    k_with "call builtin:list.append" => (k_here; (show wpAny _ _ (call (Value.builtin _) [Value.ref _, _]) _ _ _); k_dflt (refine' append_K ?k1 ?k2 ?k3 ?_ ?z; (case k1 => k_asm); (case k2 => k_asm); (case k3 => k_upd); (case z => (simp only [Array.size_push, List.size_toArray]; rw [sizeLine_eq]; omega)); k_whole); intro h' F' N'; (try k_sweep))
    k_with "compareOp Is" => (k_here; refine is_none ?_)
    k_with "binaryOp Mult ref int" => (k_here; k_dflt (refine' tup_mul ?k1 ?k2 ?k3 ?k4 ?_; (case k1 => assumption); (case k2 => k_asm); (case k3 => k_asm); (case k4 => k_mem); k_whole); intro D' h' pvs F' N' lle hpv)
    k_dflt (refine' row_c ?k1 ?k2 ?k3 ?k4 ?k5 N7 ?k6 ?k0 hrow htl hlen ?k9 ?k10 ?k11 ?k7 ?k8 ?_; (case k1 => k_asm); (case k2 => k_asm); (case k3 => k_asm); (case k4 => k_asm); (case k5 => first | exact rfl | assumption); (case k6 => (intro o9; k_upd)); (case k0 => exact hl6); (case k9 => k_asm); (case k10 => k_asm); (case k11 => k_asm); (case k7 => ktr_room); (case k8 => ktr_units); k_whole)
    clear N7 hrow htl hlen N6 hl6
    intro R T' Pw tvs x7 y7 r7 tx7 ty7 x8 y8 tx8 ty8 h8 tk8 hRow ⟨hR1, hR2, hR3⟩ ⟨hT1, hT2, hT3⟩ ⟨hP1, hP2, hP3⟩ hx8 hy8 hy8' F8 N8
    (try dsimp only at N8)
    k_fold
    k_steps
    unfold Stop
    intro vm x9 y9 tx9 ty9 h9 tk9 hvm hx9 hy9 hy9' F9 N9
    try dsimp only at N9
    obtain ⟨km, tm, rfl, hkm⟩ : ∃ k t, vm = .int k t ∧ (k = 0 ∨ k = 1) := by
      simp only [List.mem_cons, List.not_mem_nil, or_false] at hvm
      rcases hvm with rfl | rfl | rfl | rfl <;> exact ⟨_, _, rfl, by decide⟩
    clear hvm
    k_sweep
    k_fold
    k_steps
    unfold Stop
    intro va x10 y10 tx10 ty10 h10 tk10 hva hx10 hy10 hy10' F10 N10
    try dsimp only at N10
    obtain ⟨ax, ta, rfl⟩ : ∃ a t, va = .str a t := by
      simp only [List.mem_cons, List.not_mem_nil, or_false] at hva
      rcases hva with rfl | rfl <;> exact ⟨_, _, rfl⟩
    clear hva
    k_sweep
    k_fold
    k_steps
    k_with_none
    all_goals (rename News _ _ _ _ => N11; simp only [List.push_toArray] at N11)
    all_goals (
      refine' pr_end ?a1 N11 ?a2 ?a3 ?a4 hpl (fun q hq => hs4 q (List.mem_append.mpr (.inl hq))) (fun q hq => hp4 q (List.mem_append.mpr (.inl hq))) hRow ?a5 hoff hT1 hT2 hT3 ?b1 ?b2 ?b3 ?b4 ?b5 ?b6 ?b7 ?b8 ?b9 ?b10 ?c0 ?c1 ?c2 ?c3 ?c4 ?c5 ?c6 ?c7 ?c8 ?c9 ?d1 ?d2 ?d3
      (case a1 => assumption)
      (case d1 => with_unfolding_all rfl)
      (case d2 => (intro z g1 g2 g3 g4 g5 g6; simp only [g1, g2, g3, g4, g5, g6, if_false]))
      (case c0 => k_mem)
      (case c1 => k_mem)
      (case c2 => k_mem)
      (case c3 => k_mem)
      (case c4 => k_mem)
      (case c5 => k_mem)
      (case c6 => k_mem)
      (case c7 => k_mem)
      (case c8 => k_mem)
      (case c9 => (intro q hq; (repeat (first | exact hq | refine List.Mem.tail _ ?_))))
      (case a2 => assumption)
      (case a3 => assumption)
      (case a4 => assumption)
      (case a5 => omega)
      (case b1 => omega)
      (case b2 => assumption)
      (case b3 => omega)
      (case b4 => assumption)
      (case b5 => omega)
      (case b6 => omega)
      (case b7 => exact tbn_ule lle (by tbn_find))
      (case b8 => omega)
      (case b9 => omega)
      (case b10 => first | tbn_find | exact hP3)
      (case d3 => first | exact hab_plain (by assumption) (by assumption) (by assumption) hpv | exact hab_sv (by assumption) | exact hab_km (by assumption) (by assumption) hpv | exact hab_d (by assumption)))
  case done =>
    clear N4
    intro x4 y4 tx4 ty4 c4 ps W a4 b4 ta4 tb4 rest z1 z2 z3 z4 z5 h4 tk4 hpl hW hpart F4 N5
    clear R3 F3
    k_with_none
    k_with "call ref" => (refine stop ?_)
    k_with "compareOp Eq ref ref" => (k_here; (with_reducible show wpAny _ _ (compareOp CmpOp.Eq (Value.ref _) (Value.ref _)) _ _ _); k_dflt (refine' tup_eq2 ?k1 ?k2 ?k3 ?_; (case k1 => with_unfolding_all exact Fr.tup (by k_asm) (tupK (by k_asm) (by k_is))); (case k2 => exact News.isTup (by k_asm) (by k_mem)); (case k3 => ktr_units); k_whole))
    (try k_fold)
    k_steps
    unfold Stop
    by_cases hone : ps.length = 1
    · obtain ⟨pt, dpt, st, dx, T', Pp, A', bd, tvs, pvs, tA, j1, j2, j3, j4, j5, x1, y1, r, rfl, m1, m2, m3, m4, m5, m6, hRow, hpv, hab⟩ := hpart hone
      have N6 := news_one N5 (.tail _ (.head _)) (.tail _ (.tail _ m1)) (.tail _ (.tail _ m2)) (.tail _ (.tail _ m3)) (.tail _ (.tail _ m4)) (.tail _ (.tail _ m5)) (.tail _ (.tail _ m6)) (.tail _ (.tail _ hW))
      k_dflt (refine' prio_one ?k1 ?k2 ?k3 ?k4 ?k5 N6 hRow hpv ?k7 ?k8 ?_; (case k1 => k_asm); (case k2 => k_asm); (case k3 => k_asm); (case k4 => k_asm); (case k5 => first | exact rfl | assumption); (case k7 => ktr_room); (case k8 => ktr_units); k_whole)
      intro h6 tk6 F6 N7
      obtain ⟨rr, hrr, hcase⟩ := worth_eq hRow hab
      rw [hrr]
      clear N6 N5 F4 hab hrr
      rcases hcase with ⟨rfl, rfl, rfl⟩ | ⟨rfl, rfl, rfl⟩ | ⟨rfl, rfl, rfl⟩ | ⟨rfl, rfl, rfl⟩
      all_goals (try k_fold)
      all_goals k_steps
      all_goals first | exact hret _ _ _ (by assumption) (by assumption) | omega
    · k_dflt (refine' prio_many ?k1 ?k2 ?k3 ?k4 ?k5 (news_swap N5) hone hpl ?k7 ?k8 ?_; (case k1 => k_asm); (case k2 => k_asm); (case k3 => k_asm); (case k4 => k_asm); (case k5 => first | exact rfl | assumption); (case k7 => ktr_room); (case k8 => ktr_units); k_whole)
      intro h6 tk6 F6 N7
      clear N5 F4
      k_with "call builtin:len" => (k_here; (with_reducible show wpAny _ _ (call (Value.builtin "len") [Value.ref _]) _ _ _); k_dflt (refine' len_v ?k1 ?k2 ?_; (case k1 => exact News.isList (by k_asm) (by k_mem)); (case k2 => omega); k_whole))
      (try k_fold)
      k_steps
      all_goals first | exact hret _ _ _ (by assumption) (by assumption) | omega
end
end Mine
namespace Mine
theorem clear_pool : True := by w_top off; k_with_none; trivial
section
variable {prog : Program} {w : World} {p : Program} {loose : List Str} {mean : ExcName → Option Value} {mg mb : Str → Option Value}
  {dp un : Nat} {gd : Option (List Code)} {cn : Str} {cs : Scope} {a : Addr} {ccd : Value} {cl : List (Str × Addr)} {outer : List Env} {A₀ : Around} {base h₀ : Heap} {L : Addr} {m : Str → Option Value} {news : List (Addr × Obj)} {s : Shared} {Q E : Value → Shared → Prop}
local macro_rules | `(tactic| walk_at $s:str) => `(tactic| k_extra $s)
local macro_rules | `(tactic| k_room) => `(tactic| ktr_room)
local macro_rules | `(tactic| k_units) => `(tactic| ktr_units)
local macro_rules | `(tactic| k_all) => `(tactic| assumption)
theorem ne_cons {A : Around} {l b : Addr} {q : List Value} {t : Value} (hl : s.heap.IsList l (t :: q).toArray) (hb : s.heap.IsList b #[]) (hu : A.units < cLine) (h : Q (.bool true) s) : wpAny (model prog w) A (compareOp .NotEq (.ref l) (.ref b)) Q E s :=
  cmp_ofNotEq (PySem.SeqAt.RcNeAt.lists_lengths hl hb (by simp) hu prog w E Q h)
theorem pool_end {g h' : Heap} {L' src b : Addr} {x y : Int} {tx ty : Tok} {n tk' : Nat} {o : Obj} {m' : Str → Option Value}
    (hret : ∀ (src : Addr) (x y : Int) (tx ty : Tok) (n : Nat) (h' : Heap) (tk' : Nat), 0 ≤ x → 0 ≤ y → y < 2147483647 → Fr g L' h' m' → News g L' h' ((src, srcO x y tx ty n) :: news) → AllLt src news → Q (.ref src) { s with heap := h', toks := tk' })
    (hx : 0 ≤ x) (F : Fr g L' h' m') (N : News g L' h' ((src, srcO x (y.fmod 2147483647) tx ty n) :: (b, o) :: news)) (hlt : AllLt src news) : Q (.ref src) { s with heap := h', toks := tk' } :=
  hret src x _ tx ty n h' tk' hx (Int.fmod_nonneg_of_pos _ (by decide)) (Int.fmod_lt_of_pos _ (by decide)) F (fun q hq => N q ((List.mem_cons.mp hq).elim (fun e => e ▸ .head _) fun e => .tail _ (.tail _ e))) hlt
theorem pool_c {sc : Addr} {vs : List Value} {ns : List Int}
    (B : Below A₀ base outer h₀) (F : Fr h₀ L s.heap m) (X : (hd.heap_39 w.params).In h₀) (N : News h₀ L s.heap news) (T : Top p loose mean mg mb h₀) (hk : cs.kind = .function)
    (hL : h₀.IsList sc vs.toArray) (hI : IntsAre vs ns) (hlen : ns.length ≤ 63)
    (hd : dp + 3 < recursionLimit) (hu : un + 32 < cLine)
    (hret : ∀ (src : Addr) (x y : Int) (tx ty : Tok) (n : Nat) (h' : Heap) (tk' : Nat), 0 ≤ x → 0 ≤ y → y < 2147483647 → Fr h₀ L h' m → News h₀ L h' ((src, srcO x y tx ty n) :: news) → AllLt src news → Q (.ref src) { s with heap := h', toks := tk' }) :
    wpAny (model prog w) (ktrTop dp un gd cn cs L a ccd cl outer) (call (.ref 270) [.ref sc]) Q E s := by
  k_with "compareOp NotEq ref ref" => (k_here; (with_reducible show wpAny _ _ (compareOp CmpOp.NotEq (Value.ref _) (Value.ref _)) _ _ _); k_dflt (first
    | (refine' ne_nil0 ?k1 ?k2 ?k3 ?_; (case k1 => exact Fr.lst (by k_asm) (by k_asm)); (case k2 => kmk_list); (case k3 => ktr_units))
    | (refine' ne_cons ?k1 ?k2 ?k3 ?_; (case k1 => exact Fr.lst (by k_asm) (by k_asm)); (case k2 => kmk_list); (case k3 => ktr_units))))
  refine wpAny_call ?_
  cases hI
  · k_dflt ktr_enter
    have hL2 := Fr.lst (by assumption) hL
    k_steps
    exact pool_end hret (Int.le_refl 0) (by assumption) (by assumption) (by tbn_find)
  · k_dflt ktr_enter
    have hL2 := Fr.lst (by assumption) hL
    k_steps
    · exact pool_end hret (Int.le_trans (b := 10 ^ Int.toNat 18) (by decide) (by assumption)) (by assumption) (by assumption) (by tbn_find)
    · exact pool_end hret (Int.le_refl 0) (by assumption) (by assumption) (by tbn_find)
end
end Mine
namespace Mine
section
variable {prog : Program} {w : World} {h₀ : Heap} {L : Addr} {m : Str → Option Value} {s : Shared}
def SomeEnd (P : Params) (h₀ : Heap) (L : Addr) (m : Str → Option Value) (s : Shared) (src : Addr) (n : Nat) (base : List (Addr × Obj)) (yv : Value) (s₂ : Shared) : Prop :=
  ∃ (e dx Cc : Addr) (od : Obj) (x y : Int) (tx ty : Tok) (h' : Heap) (tk' : Nat), s₂ = { s with heap := h', toks := tk' } ∧ yv = .ref e ∧ 0 ≤ x ∧ 0 ≤ y ∧ y < 2147483647 ∧ Fr h₀ L h' m ∧
    News h₀ L h' ((e, instObj Cc dx) :: (dx, od) :: (src, srcO x y tx ty n) :: base) ∧ LeafC P Cc od ∧ AllLt dx base ∧ @LT.lt Nat _ src dx ∧ @LT.lt Nat _ dx e
theorem some_src {A : Around} {env : Env} {elt : Expr} {xn yn : Str} {scope : Scope} {cl : List (Str × Addr)} {Q : Flow → Shared → Prop} {r src : Addr} {d x₀ y₀ : Int} {t u v tx ty : Tok} {n : Nat} {rest : List (Addr × Obj)}
    (hh : A.handled = none) (F : Fr h₀ L s.heap m) (N : News h₀ L s.heap ((src, srcO x₀ y₀ tx ty n) :: rest)) (hr : IsRange s.heap r 0 (1 + d) 1 t u v) (hd0 : 0 ≤ d) (hd1 : d < 6)
    (hx : 0 ≤ x₀) (hy : 0 ≤ y₀) (hy1 : y₀ < 2147483647) (hne : ∀ p ∈ rest, p.1 ≠ src)
    (turn : ∀ (I C D : Addr) (oI oC : Obj) (m₂ : Str → Option Value) (ys : List Value) (h : Heap) (tk : Nat) (E' : Value → Shared → Prop) (x y : Int) (tx ty : Tok) (rest' : List (Addr × Obj)), 0 ≤ x → 0 ≤ y → y < 2147483647 → LCg.NsObj oC m₂ → Fr h₀ L h m →
      News h₀ L h ((src, srcO x y tx ty n) :: (I, oI) :: (C, oC) :: (D, LCg.lst ys) :: (rest ++ rest')) → (∀ p ∈ (I, oI) :: (C, oC) :: (D, LCg.lst ys) :: (rest ++ rest'), p.1 ≠ src) →
      wpAny (model prog w) A (eval elt (compEnvC scope cl C env)) (SomeEnd w.params h₀ L m { s with heap := h, toks := tk } src n ((I, oI) :: (C, oC) :: (D, LCg.lst ys) :: (rest ++ rest'))) E' { s with heap := h, toks := tk })
    (fin : ∀ (D : Addr) (ys : List Value) (x y : Int) (tx ty : Tok) (rest' : List (Addr × Obj)) (h : Heap) (tk : Nat), 0 ≤ x → 0 ≤ y → y < 2147483647 → 1 ≤ ys.length → ys.length ≤ 6 → (∀ v ∈ ys, Leaf w.params (rest ++ rest') v) → (∀ p ∈ rest ++ rest', p.1 ≠ src) → @Ne Nat D src →
      Fr h₀ L h (fun z => if z = yn then some (.ref D) else m z) → News h₀ L h ((D, listOf ys.toArray ys.length) :: (src, srcO x y tx ty n) :: (rest ++ rest')) → Q .next { s with heap := h, toks := tk }) :
    LCg.CompSrc prog w A h₀ L m env elt xn scope cl (fun s₂ => LCg.FinA h₀ L m s₂ yn Q) (.ref r) s := by
  refine LCg.CompSrc.range hh F N hr (small_one (by omega) (by omega) (by omega) (by omega)) (rangeSize_nat _ _) (by rw [PySem.sizeLine_eq]; omega) (fun g => ?_)
  have key : ∀ (k i : Nat) (ys : List Value) (x y : Int) (tx ty : Tok) (rest' : List (Addr × Obj)), i + k = (1 + d - 0).toNat → ys.length = i → 0 ≤ x → 0 ≤ y → y < 2147483647 → (∀ v ∈ ys, Leaf w.params (rest ++ rest') v) → (∀ p ∈ rest ++ rest', p.1 ≠ src) →
      LCg.CompRest prog w A h₀ L m env elt xn scope cl { s with heap := g } (fun _ => True) (fun i v => ∃ t, v = .int (0 + (i : Int)) t) (LCg.FinA h₀ L m { s with heap := g } yn Q) k i ys ((src, srcO x y tx ty n) :: (rest ++ rest')) := by
    intro k
    induction k with
    | zero =>
      intro i ys x y tx ty rest' hi hl hx hy hy1 hlf hoff
      refine LCg.CompRest.zero ?_
      intro D h tk F' N' off
      exact fin D ys x y tx ty rest' h tk hx hy hy1 (by omega) (by omega) hlf hoff (fun e => off.1 e.symm) F' N'
    | succ k ih =>
      intro i ys x y tx ty rest' hi hl hx hy hy1 hlf hoff
      refine LCg.CompRest.succ ?_
      intro v I oI C oC D m₂ h tk E' hP hC hxv F' N' off ne
      have om := off.mem
      have N2 : News h₀ L h ((src, srcO x y tx ty n) :: (I, oI) :: (C, oC) :: (D, LCg.lst ys) :: (rest ++ rest')) := fun q hq => by
        rcases List.mem_cons.mp hq with rfl | hq
        · exact N' _ (.tail _ (.tail _ (.tail _ (.head _))))
        rcases List.mem_cons.mp hq with rfl | hq
        · exact N' _ (.head _)
        rcases List.mem_cons.mp hq with rfl | hq
        · exact N' _ (.tail _ (.head _))
        rcases List.mem_cons.mp hq with rfl | hq
        · exact N' _ (.tail _ (.tail _ (.head _)))
        · exact N' _ (.tail _ (.tail _ (.tail _ (.tail _ hq))))
      have osrc := om _ (.head _)
      refine wpAny_mono (turn I C D oI oC m₂ ys h tk E' x y tx ty rest' hx hy hy1 hC F' N2 (fun p hp => ?_)) (fun yv s₂ hq => ?_) fun _ _ e => e
      · rcases List.mem_cons.mp hp with rfl | hp
        · exact osrc.1.symm
        rcases List.mem_cons.mp hp with rfl | hp
        · exact osrc.2.1.symm
        rcases List.mem_cons.mp hp with rfl | hp
        · exact osrc.2.2.symm
        · exact hoff p hp
      · obtain ⟨e, dx, Cc, od, x', y', tx', ty', h', tk', rfl, rfl, hx', hy', hy1', F'', N'', hC', hlt, hsd, hde⟩ := hq
        have hsub : ∀ q ∈ rest ++ rest', q ∈ rest ++ ((e, instObj Cc dx) :: (dx, od) :: rest') := fun q hq => by
          rcases List.mem_append.mp hq with hq | hq
          · exact List.mem_append.mpr (.inl hq)
          · exact List.mem_append.mpr (.inr (.tail _ (.tail _ hq)))
        have hcase : ∀ q ∈ rest ++ ((e, instObj Cc dx) :: (dx, od) :: rest'), q = (e, instObj Cc dx) ∨ q = (dx, od) ∨ q ∈ rest ++ rest' := fun q hq => by
          rcases List.mem_append.mp hq with hq | hq
          · exact .inr (.inr (List.mem_append.mpr (.inl hq)))
          · rcases List.mem_cons.mp hq with rfl | hq
            · exact .inl rfl
            rcases List.mem_cons.mp hq with rfl | hq
            · exact .inr (.inl rfl)
            · exact .inr (.inr (List.mem_append.mpr (.inr hq)))
        have hI : @LT.lt Nat _ I dx := hlt.1
        have hCC : @LT.lt Nat _ C dx := hlt.2.1
        have hD : @LT.lt Nat _ D dx := hlt.2.2.1
        refine ⟨h', tk', (src, srcO x' y' tx' ty' n) :: (rest ++ ((e, instObj Cc dx) :: (dx, od) :: rest')), rfl, F'', fun q hq => ?_, LCg.Off3.of fun p hp => ?_, trivial, ih (i + 1) _ x' y' tx' ty' _ (by omega) (by rw [List.length_append, hl]; rfl) hx' hy' hy1' (fun v hv => ?_) (fun p hp => ?_)⟩
        · rcases List.mem_cons.mp hq with rfl | hq
          · exact N'' _ (.tail _ (.tail _ (.tail _ (.head _))))
          rcases List.mem_cons.mp hq with rfl | hq
          · exact N'' _ (.tail _ (.tail _ (.tail _ (.tail _ (.head _)))))
          rcases List.mem_cons.mp hq with rfl | hq
          · exact N'' _ (.tail _ (.tail _ (.tail _ (.tail _ (.tail _ (.head _))))))
          rcases List.mem_cons.mp hq with rfl | hq
          · exact N'' _ (.tail _ (.tail _ (.head _)))
          rcases hcase q hq with rfl | rfl | hq
          · exact N'' _ (.head _)
          · exact N'' _ (.tail _ (.head _))
          · exact N'' _ (.tail _ (.tail _ (.tail _ (.tail _ (.tail _ (.tail _ hq))))))
        · rcases List.mem_cons.mp hp with rfl | hp
          · exact osrc
          rcases hcase p hp with rfl | rfl | hp
          · exact ⟨Nat.ne_of_gt (Nat.lt_trans hI hde), Nat.ne_of_gt (Nat.lt_trans hCC hde), Nat.ne_of_gt (Nat.lt_trans hD hde)⟩
          · exact ⟨Nat.ne_of_gt hI, Nat.ne_of_gt hCC, Nat.ne_of_gt hD⟩
          · exact om p (.tail _ hp)
        · rcases List.mem_append.mp hv with hv | hv
          · exact (hlf v hv).mono hsub
          · obtain rfl := List.mem_singleton.mp hv
            exact ⟨e, dx, Cc, od, rfl, List.mem_append.mpr (.inr (.head _)), List.mem_append.mpr (.inr (.tail _ (.head _))), hC'⟩
        · rcases hcase p hp with rfl | rfl | hp
          · exact Nat.ne_of_gt (Nat.lt_trans hsd hde)
          · exact Nat.ne_of_gt hsd
          · exact hoff p hp
  have := key (1 + d - 0).toNat 0 [] x₀ y₀ tx ty [] (Nat.zero_add _) rfl hx hy hy1 (fun _ h => nomatch h) (by rw [List.append_nil]; exact hne)
  rw [List.append_nil] at this
  exact this
theorem some_src2 {A : Around} {env : Env} {elt : Expr} {xn yn : Str} {scope : Scope} {cl : List (Str × Addr)} {Q : Flow → Shared → Prop} {r src c : Addr} {oc : Obj} {d x₀ y₀ : Int} {t u v tx ty : Tok} {n : Nat} {rest : List (Addr × Obj)}
    (_hcell : oc.data = .cell (some (.ref src))) (hh : A.handled = none) (F : Fr h₀ L s.heap m) (N : News h₀ L s.heap ((src, srcO x₀ y₀ tx ty n) :: rest)) (hr : IsRange s.heap r 0 (1 + d) 1 t u v) (hd0 : 0 ≤ d) (hd1 : d < 6)
    (hx : 0 ≤ x₀) (hy : 0 ≤ y₀) (hy1 : y₀ < 2147483647) (hne : ∀ p ∈ rest, p.1 ≠ src) (hc : (c, oc) ∈ rest)
    (turn : ∀ (C : Addr) (R : List (Addr × Obj)) (h : Heap) (tk : Nat) (E' : Value → Shared → Prop) (x y : Int) (tx ty : Tok), 0 ≤ x → 0 ≤ y → y < 2147483647 → Fr h₀ L h m →
      News h₀ L h ((src, srcO x y tx ty n) :: (c, oc) :: R) → (∀ p ∈ (c, oc) :: R, p.1 ≠ src) →
      wpAny (model prog w) A (eval elt (compEnvC scope cl C env)) (SomeEnd w.params h₀ L m { s with heap := h, toks := tk } src n ((c, oc) :: R)) E' { s with heap := h, toks := tk })
    (fin : ∀ (D : Addr) (ys : List Value) (x y : Int) (tx ty : Tok) (R : List (Addr × Obj)) (h : Heap) (tk : Nat), 0 ≤ x → 0 ≤ y → y < 2147483647 → 1 ≤ ys.length → ys.length ≤ 6 → (∀ v ∈ ys, Leaf w.params R v) → (∀ p ∈ (D, listOf ys.toArray ys.length) :: (c, oc) :: R, p.1 ≠ src) →
      Fr h₀ L h (fun z => if z = yn then some (.ref D) else m z) → News h₀ L h ((src, srcO x y tx ty n) :: (D, listOf ys.toArray ys.length) :: (c, oc) :: R) → Q .next { s with heap := h, toks := tk }) :
    LCg.CompSrc prog w A h₀ L m env elt xn scope cl (fun s₂ => LCg.FinA h₀ L m s₂ yn Q) (.ref r) s := by
  refine some_src hh F N hr hd0 hd1 hx hy hy1 hne ?_ ?_
  · intro I C D oI oC m₂ ys h tk E' x y tx ty rest' hx hy hy1 _ F' N' hoff
    refine wpAny_mono (turn C ((I, oI) :: (C, oC) :: (D, LCg.lst ys) :: (rest ++ rest')) h tk E' x y tx ty hx hy hy1 F' (fun q hq => ?_) (fun p hp => ?_)) (fun yv s₂ hq => ?_) fun _ _ e => e
    · rcases List.mem_cons.mp hq with rfl | hq
      · exact N' _ (.head _)
      rcases List.mem_cons.mp hq with rfl | hq
      · exact N' _ (.tail _ (.tail _ (.tail _ (.tail _ (List.mem_append.mpr (.inl hc))))))
      · exact N' _ (.tail _ hq)
    · rcases List.mem_cons.mp hp with rfl | hp
      · exact hne _ hc
      · exact hoff p hp
    · obtain ⟨e, dx, Cc, od, x', y', tx', ty', h', tk', e1, e2, hx', hy', hy1', F'', N'', hC', hlt, hsd, hde⟩ := hq
      refine ⟨e, dx, Cc, od, x', y', tx', ty', h', tk', e1, e2, hx', hy', hy1', F'', fun q hq => N'' q ?_, hC', hlt.2, hsd, hde⟩
      rcases List.mem_cons.mp hq with rfl | hq
      · exact .head _
      rcases List.mem_cons.mp hq with rfl | hq
      · exact .tail _ (.head _)
      rcases List.mem_cons.mp hq with rfl | hq
      · exact .tail _ (.tail _ (.head _))
      · exact .tail _ (.tail _ (.tail _ (.tail _ hq)))
  · intro D ys x y tx ty rest' h tk hx hy hy1 hl1 hl6 hlf hoff hDs F' N'
    refine fin D ys x y tx ty (rest ++ rest') h tk hx hy hy1 hl1 hl6 hlf (fun p hp => ?_) F' (fun q hq => ?_)
    · rcases List.mem_cons.mp hp with rfl | hp
      · exact hDs
      rcases List.mem_cons.mp hp with rfl | hp
      · exact hne _ hc
      · exact hoff p hp
    · rcases List.mem_cons.mp hq with rfl | hq
      · exact N' _ (.tail _ (.head _))
      rcases List.mem_cons.mp hq with rfl | hq
      · exact N' _ (.head _)
      rcases List.mem_cons.mp hq with rfl | hq
      · exact N' _ (.tail _ (.tail _ (List.mem_append.mpr (.inl hc))))
      · exact N' _ (.tail _ (.tail _ hq))
end
section
variable {prog : Program} {w : World} {p : Program} {loose : List Str} {mean : ExcName → Option Value} {mg mb : Str → Option Value}
  {dp un : Nat} {gd : Option (List Code)} {cn : Str} {cs : Scope} {a : Addr} {ccd : Value} {cl : List (Str × Addr)} {outer : List Env} {A₀ : Around} {base h₀ : Heap} {L : Addr} {m : Str → Option Value} {news : List (Addr × Obj)} {s : Shared} {Q E : Value → Shared → Prop}
theorem step_u {src : Addr} {n : Nat} {x y : Int} {tx ty : Tok} {f : Obj → List (Addr × Obj)}
    (B : Below A₀ base outer h₀) (F : Fr h₀ L s.heap m) (X : (hd.heap_39 w.params).In h₀) (N : News h₀ L s.heap news) (T : Top p loose mean mg mb h₀) (hk : cs.kind = .function)
    (U : ∀ o', Upd src (srcO x y tx ty n) o' news (f o')) (hx0 : 0 ≤ x) (hy0 : 0 ≤ y) (hy1 : y < 2147483647)
    (hd : dp + 6 < recursionLimit) (hu : un + 64 < cLine)
    (hret : ∀ (t st dx T Pp : Addr) (A : Str) (b isn : Bool) (tvs pvs : List Value) (tA k1 k2 k3 : Tok) (x' y' : Int) (tx' ty' : Tok) (h' : Heap) (tk' : Nat), 0 ≤ x' → 0 ≤ y' → y' < 2147483647 → Fr h₀ L h' m →
      News h₀ L h' ((t, tupO [.ref st, .bool b]) :: (st, instObj 213 dx) :: (dx, stepD w.params A tA k1 k2 k3 T Pp) :: (T, tupO tvs) :: (Pp, tupO pvs) :: f (srcO x' y' tx' ty' n)) → TestKind tvs isn → pvs.length ≤ 2 →
      b = (A == Str.ofString "descendant-or-self" && isn && (pvs.length == 0)) → Q (.ref t) { s with heap := h', toks := tk' }) :
    wpAny (model prog w) (ktrTop dp un gd cn cs L a ccd cl outer) (call (.ref 310) [.ref src]) Q E s := by
  refine step_c B F X (news_take (U default) N) T hk (fun q hq => by simpa using (List.mem_filter.mp hq).2) hx0 hy0 hy1 hd hu
    fun t st dx T Pp A b isn tvs pvs tA k1 k2 k3 x' y' tx' ty' h' tk' h1 h2 h3 F' N' h4 h5 h6 => hret t st dx T Pp A b isn tvs pvs tA k1 k2 k3 x' y' tx' ty' h' tk' h1 h2 h3 F' (fun q hq => ?_) h4 h5 h6
  have N2 : News h₀ L h' (f (srcO x' y' tx' ty' n)) := news_slot (U _) fun q hq => N' q (.tail _ (.tail _ (.tail _ (.tail _ (.tail _ hq)))))
  rcases List.mem_cons.mp hq with rfl | hq
  · exact N' _ (.head _)
  rcases List.mem_cons.mp hq with rfl | hq
  · exact N' _ (.tail _ (.head _))
  rcases List.mem_cons.mp hq with rfl | hq
  · exact N' _ (.tail _ (.tail _ (.head _)))
  rcases List.mem_cons.mp hq with rfl | hq
  · exact N' _ (.tail _ (.tail _ (.tail _ (.head _))))
  rcases List.mem_cons.mp hq with rfl | hq
  · exact N' _ (.tail _ (.tail _ (.tail _ (.tail _ (.head _)))))
  · exact N2 q hq
theorem news_only {g h : Heap} {L' : Addr} {nn : List (Addr × Obj)} {q : Addr × Obj} (N : News g L' h nn) (hq : q ∈ nn) : News g L' h [q] := fun r hr => by
  obtain rfl := List.mem_singleton.mp hr
  exact N _ hq
theorem ne_self {A : Around} {b : Bool} (h : Q (.bool false) s) : wpAny (model prog w) A (compareOp .NotEq (.bool b) (.bool b)) Q E s :=
  cmp_ofNotEq (PySem.SeqAt.RcNeAt.bool_bool b b prog w E Q (by rw [beq_self_eq_true]; exact h))
end
end Mine
namespace Mine
theorem clear_law : True := by w_top off; k_with_none; trivial
theorem news_cell {g h : Heap} {L' src c f : Addr} {o oc of : Obj} {R : List (Addr × Obj)} (N : News g L' h ((f, of) :: (src, o) :: R)) (hoff : ∀ p ∈ R, p.1 ≠ src) (hc : (c, oc) ∈ R) : News g L' h [(src, o), (c, oc)] := fun q hq => by
  rcases List.mem_cons.mp hq with rfl | hq
  · exact N _ (.tail _ (.head _))
  · obtain rfl := List.mem_singleton.mp hq
    exact N _ (.tail _ (.tail _ hc))
end Mine
local macro_rules | `(tactic| walk_at "none at all") => `(tactic| fail)
local macro_rules | `(tactic| walk_at $s:str) => `(tactic| k_extra $s)
local macro_rules | `(tactic| k_room) => `(tactic| ktr_room)
local macro_rules | `(tactic| k_units) => `(tactic| ktr_units)
local macro_rules | `(tactic| k_all) => `(tactic| assumption)
open Mine
theorem PySem.Challenge.cw_xm0657_01_holds : PySem.Challenge.rw_xm0657_01.Holds := by
  exact Mine.hd (by
  w_strict (
    k_go0; (all_goals try k_fold);
    k_with "call ref" => (k_here; (show wpAny _ _ (call (Value.ref 303) _) _ _ _); k_dflt (refine' same_c (vs := [_, _, _]) ?k1 ?k2 ?k3 ?k4 ?k5 ?k6 ?ka ?kb ?kc ?kd ?k7 ?k8 ?_; (case k1 => k_asm); (case k2 => k_asm); (case k3 => k_asm); (case k4 => k_asm); (case k5 => k_asm); (case k6 => exact rfl); (case ka => k_mem); (case kb => k_mem); (case kc => exact Nat.le_of_ble_eq_true rfl); (case kd => (intro v hv; simp only [List.mem_cons, List.not_mem_nil, or_false] at hv; rcases hv with rfl | rfl | rfl <;> exact ⟨_, rfl⟩)); (case k7 => ktr_room); (case k8 => ktr_units); k_whole); intro h' tk' F' N'; (try k_sweep); (try k_fold));
    k_with "call ref" => (k_here; (show wpAny _ _ (call (Value.ref 228) _) _ _ _); k_dflt (refine' alt_c ?k1 ?k2 ?k3 ?k4 ?k5 ?k6 (TreeIn.node (xs := [_]) (ys := [_, _]) ?ka ?kb (.leaf ⟨_, _, _, _, rfl, ?kc, ?kd, .inl rfl⟩) (TreeIn.node (xs := [_]) (ys := [_]) ?ke ?kf (.leaf ⟨_, _, _, _, rfl, ?kg, ?kh, .inl rfl⟩) (.leaf ⟨_, _, _, _, rfl, ?ki, ?kj, .inl rfl⟩))) ?kl ?k7 ?k8 ?_; (case k1 => k_asm); (case k2 => k_asm); (case k3 => k_asm); (case k4 => k_asm); (case k5 => k_asm); (case k6 => exact rfl); (case ka => k_mem); (case kb => k_mem); (case kc => k_mem); (case kd => k_mem); (case ke => k_mem); (case kf => k_mem); (case kg => k_mem); (case kh => k_mem); (case ki => k_mem); (case kj => k_mem); (case kl => exact Nat.le_of_ble_eq_true rfl); (case k7 => ktr_room); (case k8 => ktr_units); k_whole); intro f' c' h' tk' F' N' l1'; (try dsimp only [AllLt] at l1'); (try k_sweep); (try k_fold));
    k_with "call ref" => (k_here; (show wpAny _ _ (call (Value.ref 270) _) _ _ _); k_dflt (refine' pool_c ?k1 ?k2 ?k3 ?k4 ?k5 ?k6 ?ka ?kb ?kc ?k7 ?k8 ?_; (case k1 => k_asm); (case k2 => k_asm); (case k3 => k_asm); (case k4 => k_asm); (case k5 => k_asm); (case k6 => exact rfl); (case ka => k_asm); (case kb => k_asm); (case kc => omega); (case k7 => ktr_room); (case k8 => ktr_units); k_whole); intro src x' y' tx' ty' n' h' tk' hx' hy' hy1' F' N' l1'; (try dsimp only [AllLt] at l1'); (try k_sweep); (try k_fold));
    k_with "call ref" => (k_here; (show wpAny _ _ (call (Value.ref 277) _) _ _ _); k_dflt (refine' take_u ?k1 ?k2 ?k3 ?k4 ?k5 ?k6 ?k7 ?k8 ?k9 ?k10 ?k11 ?k12 ?k13 ?k14 ?_; (case k1 => k_asm); (case k2 => k_asm); (case k3 => k_asm); (case k4 => k_asm); (case k5 => k_asm); (case k6 => first | exact rfl | assumption); (case k7 => (intro o9; k_upd)); (case k8 => k_asm); (case k9 => k_asm); (case k10 => k_asm); (case k11 => first | decide | omega); (case k12 => first | decide | omega); (case k13 => ktr_room); (case k14 => ktr_units); k_whole); intro d' td' x' y' tx' ty' h' tk' hd0' hd1' hx' hy' hy1' F' N'; (try dsimp only at N'); (try dsimp only); (try k_sweep); (try k_fold));
    k_with "call type:range" => ((rename Fr _ _ _ _ => F'); (rename News _ _ _ _ => N'); (with_unfolding_all refine range1_rows F' N' ?_); intro _ _ _ _ _ _ _ _ _);
    k_with "CompSrc" => (refine stop ?_);
    k_steps;
    unfold Stop;
    (rename Fr _ _ _ _ => fr9);
    (rename News _ _ _ _ => nw9);
    (rename IsRange _ _ _ _ _ _ _ _ => rg9);
    (rename (_ = Data.cell _) => hcell);
    refine' some_src2 hcell (by rfl) fr9 nw9 rg9 hd0' hd1' hx' hy' hy1' ?hne ?hc ?turn ?fin;
    (case hne => (intro p hp; exact Nat.ne_of_lt (tb_ltOf (by exact l1') p hp)));
    (case hc => (repeat (first | exact List.Mem.head _ | refine List.Mem.tail _ ?_)));
    (case turn => (
      intro C R h tk E' x y tx ty hx hy hy1 F N hne;
      clear fr9 nw9 rg9;
      (k_with "call ref" => (k_here; (show wpAny _ _ (call (Value.ref 291) _) _ _ _); k_dflt (refine' expr_c ?k1 ?k2 ?k3 ?k4 ?k5 ?k6 ?ka ?k9 ?k10 ?k11 ?k7 ?k8 ?_; (case k1 => k_asm); (case k2 => k_asm); (case k3 => k_asm); (case k4 => k_asm); (case k5 => k_asm); (case k6 => exact rfl); (case ka => assumption); (case k9 => assumption); (case k10 => assumption); (case k11 => assumption); (case k7 => ktr_room); (case k8 => ktr_units); k_whole); intro e dx Cc od x' y' tx' ty' h' tk' hx' hy' hy1' F' N' hC' hlt hsd hde));
      (try k_fold);
      k_steps;
      exact ⟨_, _, _, _, _, _, _, _, _, _, rfl, rfl, hx', hy', hy1', F', N', hC', hlt, hsd, hde⟩));
    (case fin => (
      intro D ys x y tx ty R h tk hx hy hy1 hl1 hl6 hleaf hne F N;
      clear fr9 nw9 rg9;
      k_with_none;
      (k_with "call ref" => (refine stop ?_));
      (try k_fold);
      k_steps;
      unfold Stop;
      (k_dflt (refine' join_c ?k1 ?k2 ?k3 N ?k5 ?k6 hne hx hy hy1 (.head _) (fun v hv => (hleaf v hv).mono fun q hq => .tail _ (.tail _ hq)) hl1 hl6 ?k7 ?k8 ?_; (case k1 => k_asm); (case k2 => k_asm); (case k3 => k_asm); (case k5 => k_asm); (case k6 => exact rfl); (case k7 => ktr_room); (case k8 => ktr_units); k_whole));
      intro v R2 x2 y2 tx2 ty2 h2 tk2 hx2 hy2 hy2' F2 N2 hsub hoff2 htree;
      clear F N;
      (try k_fold);
      k_steps;
      unfold Stop;
      (k_dflt (refine' alt_c ?k1 ?k2 ?k3 N2 ?k5 ?k6 (htree.mono fun q hq => .tail _ hq) hl6 ?k7 ?k8 ?_; (case k1 => k_asm); (case k2 => k_asm); (case k3 => k_asm); (case k5 => k_asm); (case k6 => exact rfl); (case k7 => ktr_room); (case k8 => ktr_units); k_whole));
      intro f3 c3 h3 tk3 F3 N3 hlt3;
      clear F2 N2;
      (try k_fold);
      k_steps;
      unfold Stop;
      (k_dflt (refine' same_c ?k1 ?k2 ?k3 N3 ?k5 ?k6 (.head _) (.tail _ (.tail _ (hsub _ (.head _)))) hl6 ?kd ?k7 ?k8 ?_; (case k1 => k_asm); (case k2 => k_asm); (case k3 => k_asm); (case k5 => k_asm); (case k6 => exact rfl); (case kd => (intro v hv; obtain ⟨e, dx, Cc, od, hv2, _⟩ := hleaf v hv; exact ⟨e, hv2⟩)); (case k7 => ktr_room); (case k8 => ktr_units); k_whole));
      intro h4 tk4 F4 N4;
      clear F3 N3;
      have N5 := news_cell N4 hoff2 (hsub _ (.tail _ (.head _)));
      clear N4;
      k_with_none;
      (k_with "call ref" => (k_here; (show wpAny _ _ (call (Value.ref 310) _) _ _ _); k_dflt (refine' step_u ?k1 ?k2 ?k3 ?k4 ?k5 ?k6 ?ka ?k9 ?k10 ?k11 ?k7 ?k8 ?_; (case k1 => k_asm); (case k2 => k_asm); (case k3 => k_asm); (case k4 => k_asm); (case k5 => k_asm); (case k6 => exact rfl); (case ka => (intro o9; k_upd)); (case k9 => assumption); (case k10 => assumption); (case k11 => assumption); (case k7 => ktr_room); (case k8 => ktr_units); k_whole); intro t st dx T' Pp A' b isn tvs pvs tA j1 j2 j3 x' y' tx' ty' h' tk' hx' hy' hy1' F' N' hTk hpl hb; (try dsimp only at N'); (try k_sweep); (try k_fold)));
      (k_with "call ref" => (k_here; (show wpAny _ _ (call (Value.ref 235) _) _ _ _); k_dflt (refine' depth_c ?k1 ?k2 ?k3 ?k4 ?k5 ?k6 hTk hpl ?k7 ?k8 ?_; (case k1 => k_asm); (case k2 => k_asm); (case k3 => k_asm); (case k4 => exact news_tail (by k_asm)); (case k5 => k_asm); (case k6 => exact rfl); (case k7 => ktr_room); (case k8 => ktr_units); k_whole); intro h' tk' F' N'; (have N9 := news_drop4 N'); clear N'; (rw [← hb]); clear hTk hpl hb; (try k_sweep); (try k_fold)));
      (k_with "compareOp NotEq bool bool" => (k_here; refine ne_self ?_));
      (k_with "call ref" => (k_here; (show wpAny _ _ (call (Value.ref 324) _) _ _ _); k_dflt (refine' prior_c (news := []) ?k1 ?k2 ?k3 ?k4 ?k5 ?k6 ?ka ?k9 ?k10 ?k11 ?k7 ?k8 ?_; (case k1 => k_asm); (case k2 => k_asm); (case k3 => k_asm); (case k4 => exact news_only (by k_asm) (by k_mem)); (case k5 => k_asm); (case k6 => exact rfl); (case ka => exact fun _ h => nomatch h); (case k9 => assumption); (case k10 => assumption); (case k11 => assumption); (case k7 => ktr_room); (case k8 => ktr_units); k_whole); intro n9 h' tk' F' N'; (try k_sweep); (try k_fold)));
      (try k_fold);
      k_steps;
        skip))))
