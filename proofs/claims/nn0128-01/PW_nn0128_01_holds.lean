import PyProof.Rows.All
import Wide.All
import OpenK.AllK
import Wide.FinOn
import PySem.Challenge.RW_nn0128_01
open PySem PySem.W PyProof.Rows PySem.Calls PySem.Challenge
set_option Elab.async false
set_option maxRecDepth 100000
set_option maxHeartbeats 0
set_option linter.unusedVariables false
set_option linter.unusedSimpArgs false
noncomputable section
namespace Mine
open PySem.PyData (keyHash)
noncomputable def fget (b : List Stmt) (i : Nat) : Arguments × List Stmt × Scope := match b[i]? with
  | some (.FunctionDef _ a bd _ _ _ sc _ _ _) => (a, bd, sc)
  | _ => (⟨[], [], none, [], [], none, []⟩, [], ⟨.module, [], false, false, []⟩)
noncomputable def fd (i : Nat) : Arguments × List Stmt × Scope := fget pw_nn0128_01.main.body i
noncomputable def cget (i : Nat) : List Stmt := match pw_nn0128_01.main.body[i]? with
  | some (.ClassDef _ _ _ b _ _ _ _ _ _ _) => b
  | _ => []
noncomputable def md (i j : Nat) : Arguments × List Stmt × Scope := fget (cget i) j
noncomputable def o0 (P : Params) : Obj := (Obj.mk (.type "tuple") none (Data.seq #[] 0) #[])
noncomputable def o1 (P : Params) : Obj := (Obj.mk Value.none none (Data.fields #[]) #[])
noncomputable def o2 (P : Params) : Obj := (Obj.mk (.type "code") none (Data.fields #[(.str "<module>" 182), (.str "<module>" 183), (.str "/claim/cut.py" 184), (.int 1 0), (.int 0 0), (.int 0 0), (.int 0 0), (.int 0 0), (.ref 11), (.bool Bool.false), (.int 181 0), (.ref 12), Value.none, Value.none, Value.none, Value.none, (.int 185 0), (.int 1 0), (.str "/claim/cut.py" 186)]) #[])
noncomputable def o3 (P : Params) : Obj := (Obj.mk (.type "frame") none Data.plain #[(some (.ref 13)), (some (.ref 3)), (some (.ref 3)), none, (some (.str "__main__" 164)), none, (some (.ref 0))])
noncomputable def tr_block (P : Params) : BT := (BT.node (boot_o_0 P) (BT.node (boot_o_1 P) (BT.node (boot_o_3 P) (BT.node (boot_o_7 P) BT.nil BT.nil) (BT.node (o0 P) BT.nil BT.nil)) (BT.node (boot_o_5 P) (BT.node (boot_o_9 P) BT.nil BT.nil) (BT.node (o2 P) BT.nil BT.nil))) (BT.node (boot_o_2 P) (BT.node (boot_o_4 P) (BT.node (boot_o_8 P) BT.nil BT.nil) (BT.node (o1 P) BT.nil BT.nil)) (BT.node (boot_o_6 P) (BT.node (boot_o_10 P) BT.nil BT.nil) (BT.node (o3 P) BT.nil BT.nil))))
noncomputable def o4 (P : Params) : Obj := (Obj.mk Value.none none (Data.dict #[(DictEntry.mk (keyHash P "type.__subclasses__.Exception.0") (.str "type.__subclasses__.Exception.0" 244) (.int 53 0)), (DictEntry.mk (keyHash P "type.__subclasses__.Exception.n") (.str "type.__subclasses__.Exception.n" 245) (.int 1 0))] 2) #[])
noncomputable def o5 (P : Params) : Obj := (Obj.mk (.type "dict") none (Data.dict #[(DictEntry.mk (keyHash P "__name__") (.str "__name__" 165) (.str "paperhold.decimals" 248)), (DictEntry.mk (keyHash P "__doc__") (.str "__doc__" 166) Value.none), (DictEntry.mk (keyHash P "__package__") (.str "__package__" 167) Value.none), (DictEntry.mk (keyHash P "__loader__") (.str "__loader__" 168) (.builtin "__main__.__loader__#opaque")), (DictEntry.mk (keyHash P "__spec__") (.str "__spec__" 169) Value.none), (DictEntry.mk (keyHash P "__annotations__") (.str "__annotations__" 170) (.ref 6)), (DictEntry.mk (keyHash P "__builtins__") (.str "__builtins__" 171) (.ref 4)), (DictEntry.mk (keyHash P "__file__") (.str "__file__" 173) (.str "/claim/cut.py" 172)), (DictEntry.mk (keyHash P "__cached__") (.str "__cached__" 174) Value.none), (DictEntry.mk (keyHash P "_wall") (.str "_wall" 193) (.ref 21)), (DictEntry.mk (keyHash P "is_there") (.str "is_there" 205) (.ref 28)), (DictEntry.mk (keyHash P "PaperError") (.str "PaperError" 247) (.ref 53))] 12) #[])
noncomputable def o6 (P : Params) : Obj := (Obj.mk Value.none none (Data.fields #[(.int 1 0), (.int 0 0), (.ref 20), (.int 5 0), (.int 0 0), (.ref 27), (.int 9 0), (.int 0 0), (.ref 34)]) #[])
noncomputable def o7 (P : Params) : Obj := (Obj.mk (.type "tuple") none (Data.seq #[] 0) #[])
noncomputable def o8 (P : Params) : Obj := (Obj.mk Value.none none (Data.fields #[]) #[])
noncomputable def o9 (P : Params) : Obj := (Obj.mk (.type "tuple") none (Data.seq #[(.str "k" 190)] 0) #[])
noncomputable def o10 (P : Params) : Obj := (Obj.mk (.type "tuple") none (Data.seq #[] 0) #[])
noncomputable def o11 (P : Params) : Obj := (Obj.mk Value.none none (Data.func (FuncData.mk "_wall" "_wall" (fd 0).1 (FuncBody.stmts (fd 0).2.1) (fd 0).2.2 0 [] Value.none Value.none Value.none Value.none none Value.none Value.none 0)) #[])
noncomputable def o12 (P : Params) : Obj := (Obj.mk (.type "code") none (Data.fields #[(.str "_wall" 187), (.str "_wall" 188), (.str "/claim/cut.py" 189), (.int 1 0), (.int 1 0), (.int 0 0), (.int 0 0), (.int 3 0), (.ref 15), (.bool Bool.true), (.int 181 0), (.ref 16), Value.none, (.ref 17), (.ref 18), (.ref 19), (.int 191 0), (.int 1 0), (.str "/claim/cut.py" 192)]) #[])
noncomputable def o13 (P : Params) : Obj := (Obj.mk (.type "function") none (Data.func (FuncData.mk "_wall" "_wall" (fd 0).1 (FuncBody.stmts (fd 0).2.1) (fd 0).2.2 3 [] Value.none Value.none Value.none (.str "__main__" 164) none (.ref 20) Value.none 0)) #[])
noncomputable def o14 (P : Params) : Obj := (Obj.mk (.type "tuple") none (Data.seq #[] 0) #[])
noncomputable def o15 (P : Params) : Obj := (Obj.mk Value.none none (Data.fields #[]) #[])
noncomputable def o16 (P : Params) : Obj := (Obj.mk (.type "tuple") none (Data.seq #[(.str "shelf" 199), (.str "pair" 200), (.str "number" 201), (.str "generation" 202)] 0) #[])
noncomputable def o17 (P : Params) : Obj := (Obj.mk (.type "tuple") none (Data.seq #[] 0) #[])
noncomputable def o18 (P : Params) : Obj := (Obj.mk Value.none none (Data.func (FuncData.mk "is_there" "is_there" (fd 2).1 (FuncBody.stmts (fd 2).2.1) (fd 2).2.2 0 [] Value.none Value.none Value.none Value.none none Value.none Value.none 0)) #[])
noncomputable def o19 (P : Params) : Obj := (Obj.mk (.type "code") none (Data.fields #[(.str "is_there" 196), (.str "is_there" 197), (.str "/claim/cut.py" 198), (.int 5 0), (.int 2 0), (.int 0 0), (.int 0 0), (.int 3 0), (.ref 22), (.bool Bool.true), (.int 181 0), (.ref 23), Value.none, (.ref 24), (.ref 25), (.ref 26), (.int 203 0), (.int 5 0), (.str "/claim/cut.py" 204)]) #[])
noncomputable def o20 (P : Params) : Obj := (Obj.mk (.type "function") none (Data.func (FuncData.mk "is_there" "is_there" (fd 2).1 (FuncBody.stmts (fd 2).2.1) (fd 2).2.2 3 [] Value.none Value.none Value.none (.str "paperhold.gather" 194) none (.ref 27) Value.none 0)) #[])
noncomputable def o21 (P : Params) : Obj := (Obj.mk (.type "tuple") none (Data.seq #[(.type "Exception")] 0) #[])
noncomputable def o22 (P : Params) : Obj := (Obj.mk (.type "builtin_function_or_method") none (Data.fields #[(.builtin "type.__prepare__"), (.type "type")]) #[])
noncomputable def o23 (P : Params) : Obj := (Obj.mk (.type "dict") none (Data.dict #[(DictEntry.mk (keyHash P "__module__") (.str "__module__" 215) (.str "paperhold.errors" 206)), (DictEntry.mk (keyHash P "__qualname__") (.str "__qualname__" 217) (.str "PaperError" 216)), (DictEntry.mk (keyHash P "__firstlineno__") (.str "__firstlineno__" 219) (.int 9 218)), (DictEntry.mk (keyHash P "__init__") (.str "__init__" 230) (.ref 43)), (DictEntry.mk (keyHash P "told") (.str "told" 237) (.ref 50)), (DictEntry.mk (keyHash P "__static_attributes__") (.str "__static_attributes__" 240) (.ref 51))] 6) #[])
noncomputable def o24 (P : Params) : Obj := (Obj.mk (.type "tuple") none (Data.seq #[] 0) #[])
noncomputable def o25 (P : Params) : Obj := (Obj.mk Value.none none (Data.fields #[(.int 11 0), (.int 4 0), (.ref 42), (.int 16 0), (.int 4 0), (.ref 49)]) #[])
noncomputable def o26 (P : Params) : Obj := (Obj.mk (.type "code") none (Data.fields #[(.str "PaperError" 210), (.str "PaperError" 211), (.str "/claim/cut.py" 212), (.int 9 0), (.int 0 0), (.int 0 0), (.int 0 0), (.int 0 0), (.ref 32), (.bool Bool.false), (.int 181 0), (.ref 33), Value.none, Value.none, Value.none, Value.none, (.int 213 0), (.int 9 0), (.str "/claim/cut.py" 214)]) #[])
noncomputable def o27 (P : Params) : Obj := (Obj.mk (.type "frame") none Data.plain #[(some (.ref 34)), (some (.ref 3)), (some (.ref 31)), none, (some (.str "paperhold.errors" 206)), none, (some (.ref 0))])
noncomputable def o28 (P : Params) : Obj := (Obj.mk (.type "tuple") none (Data.seq #[(.int (-1) 221)] 0) #[])
noncomputable def o29 (P : Params) : Obj := (Obj.mk (.type "tuple") none (Data.seq #[] 0) #[])
noncomputable def o30 (P : Params) : Obj := (Obj.mk Value.none none (Data.fields #[]) #[])
noncomputable def o31 (P : Params) : Obj := (Obj.mk (.type "tuple") none (Data.seq #[(.str "self" 225), (.str "what" 226), (.str "at" 227)] 0) #[])
noncomputable def o32 (P : Params) : Obj := (Obj.mk (.type "tuple") none (Data.seq #[] 0) #[])
noncomputable def o33 (P : Params) : Obj := (Obj.mk Value.none none (Data.func (FuncData.mk "__init__" "PaperError.__init__" (md 4 0).1 (FuncBody.stmts (md 4 0).2.1) (md 4 0).2.2 0 [] Value.none Value.none Value.none Value.none none Value.none Value.none 0)) #[])
noncomputable def o34 (P : Params) : Obj := (Obj.mk (.type "code") none (Data.fields #[(.str "__init__" 222), (.str "PaperError.__init__" 223), (.str "/claim/cut.py" 224), (.int 11 0), (.int 3 0), (.int 0 0), (.int 0 0), (.int 3 0), (.ref 37), (.bool Bool.true), (.int 181 0), (.ref 38), Value.none, (.ref 39), (.ref 40), (.ref 41), (.int 228 0), (.int 11 0), (.str "/claim/cut.py" 229)]) #[])
noncomputable def o35 (P : Params) : Obj := (Obj.mk (.type "function") none (Data.func (FuncData.mk "__init__" "PaperError.__init__" (md 4 0).1 (FuncBody.stmts (md 4 0).2.1) (md 4 0).2.2 3 [] (.ref 36) Value.none Value.none (.str "paperhold.errors" 206) none (.ref 42) Value.none 0)) #[])
noncomputable def o36 (P : Params) : Obj := (Obj.mk (.type "tuple") none (Data.seq #[] 0) #[])
noncomputable def o37 (P : Params) : Obj := (Obj.mk Value.none none (Data.fields #[]) #[])
noncomputable def o38 (P : Params) : Obj := (Obj.mk (.type "tuple") none (Data.seq #[(.str "self" 234)] 0) #[])
noncomputable def o39 (P : Params) : Obj := (Obj.mk (.type "tuple") none (Data.seq #[] 0) #[])
noncomputable def o40 (P : Params) : Obj := (Obj.mk Value.none none (Data.func (FuncData.mk "told" "PaperError.told" (md 4 1).1 (FuncBody.stmts (md 4 1).2.1) (md 4 1).2.2 0 [] Value.none Value.none Value.none Value.none none Value.none Value.none 0)) #[])
noncomputable def o41 (P : Params) : Obj := (Obj.mk (.type "code") none (Data.fields #[(.str "told" 231), (.str "PaperError.told" 232), (.str "/claim/cut.py" 233), (.int 16 0), (.int 1 0), (.int 0 0), (.int 0 0), (.int 3 0), (.ref 44), (.bool Bool.true), (.int 181 0), (.ref 45), Value.none, (.ref 46), (.ref 47), (.ref 48), (.int 235 0), (.int 16 0), (.str "/claim/cut.py" 236)]) #[])
noncomputable def o42 (P : Params) : Obj := (Obj.mk (.type "function") none (Data.func (FuncData.mk "told" "PaperError.told" (md 4 1).1 (FuncBody.stmts (md 4 1).2.1) (md 4 1).2.2 3 [] Value.none Value.none Value.none (.str "paperhold.errors" 206) none (.ref 49) Value.none 0)) #[])
noncomputable def o43 (P : Params) : Obj := (Obj.mk (.type "tuple") none (Data.seq #[(.str "at" 238), (.str "what" 239)] 0) #[])
noncomputable def o44 (P : Params) : Obj := (Obj.mk (.type "dict") none (Data.dict #[(DictEntry.mk (keyHash P "__module__") (.str "__module__" 215) (.str "paperhold.errors" 206)), (DictEntry.mk (keyHash P "__firstlineno__") (.str "__firstlineno__" 219) (.int 9 218)), (DictEntry.mk (keyHash P "__init__") (.str "__init__" 230) (.ref 43)), (DictEntry.mk (keyHash P "told") (.str "told" 237) (.ref 50)), (DictEntry.mk (keyHash P "__static_attributes__") (.str "__static_attributes__" 240) (.ref 51)), (DictEntry.mk (keyHash P "__weakref__") (.str "__weakref__" 242) (.ref 54)), (DictEntry.mk (keyHash P "__doc__") (.str "__doc__" 243) Value.none)] 3) #[])
noncomputable def o45 (P : Params) : Obj := (Obj.mk (.type "type") none (Data.cls (ClassData.mk "PaperError" [(.type "Exception")] [(.ref 53), (.type "Exception"), (.type "BaseException"), (.type "object")] 52 "PaperError" Bool.true [] [] Bool.false none Bool.false)) #[(some (.ref 29)), none, (some (.str "PaperError" 208)), (some (.str "PaperError" 216)), (some (.builtin "Exception.__new__")), (some (.bool Bool.true))])
noncomputable def o46 (P : Params) : Obj := (Obj.mk (.type "getset_descriptor") none (Data.fields #[(.str "__weakref__" 241), (.ref 53), (.builtin "ExceptionGroup.__weakref__"), Value.none]) #[])
noncomputable def o47 (P : Params) : Obj := (Obj.mk (.type "super") none (Data.fields #[(.ref 53), (.ref 53), (.ref 53)]) #[])
noncomputable def o48 (P : Params) : Obj := (Obj.mk (.type "builtin_function_or_method") none (Data.fields #[(.builtin "object.__init_subclass__"), (.ref 53)]) #[])
noncomputable def tr_g0 (P : Params) : BT := (BT.node (boot_o_0 P) (BT.node (boot_o_1 P) (BT.node (o5 P) (BT.node (boot_o_7 P) (BT.node (o7 P) (BT.node (o23 P) BT.nil BT.nil) (BT.node (o39 P) BT.nil BT.nil)) (BT.node (o15 P) (BT.node (o31 P) BT.nil BT.nil) (BT.node (o47 P) BT.nil BT.nil))) (BT.node (o0 P) (BT.node (o11 P) (BT.node (o27 P) BT.nil BT.nil) (BT.node (o43 P) BT.nil BT.nil)) (BT.node (o19 P) (BT.node (o35 P) BT.nil BT.nil) BT.nil))) (BT.node (boot_o_5 P) (BT.node (boot_o_9 P) (BT.node (o9 P) (BT.node (o25 P) BT.nil BT.nil) (BT.node (o41 P) BT.nil BT.nil)) (BT.node (o17 P) (BT.node (o33 P) BT.nil BT.nil) BT.nil)) (BT.node (o2 P) (BT.node (o13 P) (BT.node (o29 P) BT.nil BT.nil) (BT.node (o45 P) BT.nil BT.nil)) (BT.node (o21 P) (BT.node (o37 P) BT.nil BT.nil) BT.nil)))) (BT.node (o4 P) (BT.node (boot_o_4 P) (BT.node (boot_o_8 P) (BT.node (o8 P) (BT.node (o24 P) BT.nil BT.nil) (BT.node (o40 P) BT.nil BT.nil)) (BT.node (o16 P) (BT.node (o32 P) BT.nil BT.nil) (BT.node (o48 P) BT.nil BT.nil))) (BT.node (o6 P) (BT.node (o12 P) (BT.node (o28 P) BT.nil BT.nil) (BT.node (o44 P) BT.nil BT.nil)) (BT.node (o20 P) (BT.node (o36 P) BT.nil BT.nil) BT.nil))) (BT.node (boot_o_6 P) (BT.node (boot_o_10 P) (BT.node (o10 P) (BT.node (o26 P) BT.nil BT.nil) (BT.node (o42 P) BT.nil BT.nil)) (BT.node (o18 P) (BT.node (o34 P) BT.nil BT.nil) BT.nil)) (BT.node (o3 P) (BT.node (o14 P) (BT.node (o30 P) BT.nil BT.nil) (BT.node (o46 P) BT.nil BT.nil)) (BT.node (o22 P) (BT.node (o38 P) BT.nil BT.nil) BT.nil)))))
noncomputable def o49 (P : Params) : Obj := (Obj.mk (.type "dict") none (Data.dict #[(DictEntry.mk (keyHash P "__name__") (.str "__name__" 165) (.str "paperhold.decimals" 248)), (DictEntry.mk (keyHash P "__doc__") (.str "__doc__" 166) Value.none), (DictEntry.mk (keyHash P "__package__") (.str "__package__" 167) Value.none), (DictEntry.mk (keyHash P "__loader__") (.str "__loader__" 168) (.builtin "__main__.__loader__#opaque")), (DictEntry.mk (keyHash P "__spec__") (.str "__spec__" 169) Value.none), (DictEntry.mk (keyHash P "__annotations__") (.str "__annotations__" 170) (.ref 6)), (DictEntry.mk (keyHash P "__builtins__") (.str "__builtins__" 171) (.ref 4)), (DictEntry.mk (keyHash P "__file__") (.str "__file__" 173) (.str "/claim/cut.py" 172)), (DictEntry.mk (keyHash P "__cached__") (.str "__cached__" 174) Value.none), (DictEntry.mk (keyHash P "_wall") (.str "_wall" 193) (.ref 21)), (DictEntry.mk (keyHash P "is_there") (.str "is_there" 205) (.ref 28)), (DictEntry.mk (keyHash P "PaperError") (.str "PaperError" 247) (.ref 53)), (DictEntry.mk (keyHash P "Decimal") (.str "Decimal" 363) (.ref 150))] 13) #[])
noncomputable def o50 (P : Params) : Obj := (Obj.mk Value.none none (Data.fields #[(.int 1 0), (.int 0 0), (.ref 20), (.int 5 0), (.int 0 0), (.ref 27), (.int 9 0), (.int 0 0), (.ref 34), (.int 19 0), (.int 0 0), (.ref 62)]) #[])
noncomputable def o51 (P : Params) : Obj := (Obj.mk (.type "tuple") none (Data.seq #[] 0) #[])
noncomputable def o52 (P : Params) : Obj := (Obj.mk (.type "builtin_function_or_method") none (Data.fields #[(.builtin "type.__prepare__"), (.type "type")]) #[])
noncomputable def o53 (P : Params) : Obj := (Obj.mk (.type "dict") none (Data.dict #[(DictEntry.mk (keyHash P "__module__") (.str "__module__" 257) (.str "paperhold.decimals" 248)), (DictEntry.mk (keyHash P "__qualname__") (.str "__qualname__" 259) (.str "Decimal" 258)), (DictEntry.mk (keyHash P "__firstlineno__") (.str "__firstlineno__" 261) (.int 19 260)), (DictEntry.mk (keyHash P "__init__") (.str "__init__" 270) (.ref 70)), (DictEntry.mk (keyHash P "plus") (.str "plus" 278) (.ref 77)), (DictEntry.mk (keyHash P "minus") (.str "minus" 286) (.ref 84)), (DictEntry.mk (keyHash P "times") (.str "times" 294) (.ref 91)), (DictEntry.mk (keyHash P "negated") (.str "negated" 301) (.ref 98)), (DictEntry.mk (keyHash P "compared") (.str "compared" 309) (.ref 105)), (DictEntry.mk (keyHash P "is_whole") (.str "is_whole" 316) (.ref 112)), (DictEntry.mk (keyHash P "floor") (.str "floor" 323) (.ref 119)), (DictEntry.mk (keyHash P "rounded") (.str "rounded" 331) (.ref 126)), (DictEntry.mk (keyHash P "told") (.str "told" 338) (.ref 133)), (DictEntry.mk (keyHash P "text") (.str "text" 346) (.ref 140)), (DictEntry.mk (keyHash P "least_text") (.str "least_text" 353) (.ref 147)), (DictEntry.mk (keyHash P "__static_attributes__") (.str "__static_attributes__" 356) (.ref 148))] 16) #[])
noncomputable def o54 (P : Params) : Obj := (Obj.mk (.type "tuple") none (Data.seq #[] 0) #[])
noncomputable def o55 (P : Params) : Obj := (Obj.mk Value.none none (Data.fields #[(.int 21 0), (.int 4 0), (.ref 69), (.int 28 0), (.int 4 0), (.ref 76), (.int 31 0), (.int 4 0), (.ref 83), (.int 34 0), (.int 4 0), (.ref 90), (.int 37 0), (.int 4 0), (.ref 97), (.int 40 0), (.int 4 0), (.ref 104), (.int 43 0), (.int 4 0), (.ref 111), (.int 46 0), (.int 4 0), (.ref 118), (.int 49 0), (.int 4 0), (.ref 125), (.int 52 0), (.int 4 0), (.ref 132), (.int 55 0), (.int 4 0), (.ref 139), (.int 62 0), (.int 4 0), (.ref 146)]) #[])
noncomputable def o56 (P : Params) : Obj := (Obj.mk (.type "code") none (Data.fields #[(.str "Decimal" 252), (.str "Decimal" 253), (.str "/claim/cut.py" 254), (.int 19 0), (.int 0 0), (.int 0 0), (.int 0 0), (.int 0 0), (.ref 60), (.bool Bool.false), (.int 181 0), (.ref 61), Value.none, Value.none, Value.none, Value.none, (.int 255 0), (.int 19 0), (.str "/claim/cut.py" 256)]) #[])
noncomputable def o57 (P : Params) : Obj := (Obj.mk (.type "frame") none Data.plain #[(some (.ref 62)), (some (.ref 3)), (some (.ref 59)), none, (some (.str "paperhold.decimals" 248)), none, (some (.ref 0))])
noncomputable def o58 (P : Params) : Obj := (Obj.mk (.type "tuple") none (Data.seq #[] 0) #[])
noncomputable def o59 (P : Params) : Obj := (Obj.mk Value.none none (Data.fields #[]) #[])
noncomputable def o60 (P : Params) : Obj := (Obj.mk (.type "tuple") none (Data.seq #[(.str "self" 265), (.str "top" 266), (.str "places" 267)] 0) #[])
noncomputable def o61 (P : Params) : Obj := (Obj.mk (.type "tuple") none (Data.seq #[] 0) #[])
noncomputable def o62 (P : Params) : Obj := (Obj.mk Value.none none (Data.func (FuncData.mk "__init__" "Decimal.__init__" (md 6 0).1 (FuncBody.stmts (md 6 0).2.1) (md 6 0).2.2 0 [] Value.none Value.none Value.none Value.none none Value.none Value.none 0)) #[])
noncomputable def o63 (P : Params) : Obj := (Obj.mk (.type "code") none (Data.fields #[(.str "__init__" 262), (.str "Decimal.__init__" 263), (.str "/claim/cut.py" 264), (.int 21 0), (.int 3 0), (.int 0 0), (.int 0 0), (.int 3 0), (.ref 64), (.bool Bool.true), (.int 181 0), (.ref 65), Value.none, (.ref 66), (.ref 67), (.ref 68), (.int 268 0), (.int 21 0), (.str "/claim/cut.py" 269)]) #[])
noncomputable def o64 (P : Params) : Obj := (Obj.mk (.type "function") none (Data.func (FuncData.mk "__init__" "Decimal.__init__" (md 6 0).1 (FuncBody.stmts (md 6 0).2.1) (md 6 0).2.2 3 [] Value.none Value.none Value.none (.str "paperhold.decimals" 248) none (.ref 69) Value.none 0)) #[])
noncomputable def o65 (P : Params) : Obj := (Obj.mk (.type "tuple") none (Data.seq #[] 0) #[])
noncomputable def o66 (P : Params) : Obj := (Obj.mk Value.none none (Data.fields #[]) #[])
noncomputable def o67 (P : Params) : Obj := (Obj.mk (.type "tuple") none (Data.seq #[(.str "self" 274), (.str "other" 275)] 0) #[])
noncomputable def o68 (P : Params) : Obj := (Obj.mk (.type "tuple") none (Data.seq #[] 0) #[])
noncomputable def o69 (P : Params) : Obj := (Obj.mk Value.none none (Data.func (FuncData.mk "plus" "Decimal.plus" (md 6 1).1 (FuncBody.stmts (md 6 1).2.1) (md 6 1).2.2 0 [] Value.none Value.none Value.none Value.none none Value.none Value.none 0)) #[])
noncomputable def o70 (P : Params) : Obj := (Obj.mk (.type "code") none (Data.fields #[(.str "plus" 271), (.str "Decimal.plus" 272), (.str "/claim/cut.py" 273), (.int 28 0), (.int 2 0), (.int 0 0), (.int 0 0), (.int 3 0), (.ref 71), (.bool Bool.true), (.int 181 0), (.ref 72), Value.none, (.ref 73), (.ref 74), (.ref 75), (.int 276 0), (.int 28 0), (.str "/claim/cut.py" 277)]) #[])
noncomputable def o71 (P : Params) : Obj := (Obj.mk (.type "function") none (Data.func (FuncData.mk "plus" "Decimal.plus" (md 6 1).1 (FuncBody.stmts (md 6 1).2.1) (md 6 1).2.2 3 [] Value.none Value.none Value.none (.str "paperhold.decimals" 248) none (.ref 76) Value.none 0)) #[])
noncomputable def o72 (P : Params) : Obj := (Obj.mk (.type "tuple") none (Data.seq #[] 0) #[])
noncomputable def o73 (P : Params) : Obj := (Obj.mk Value.none none (Data.fields #[]) #[])
noncomputable def o74 (P : Params) : Obj := (Obj.mk (.type "tuple") none (Data.seq #[(.str "self" 282), (.str "other" 283)] 0) #[])
noncomputable def o75 (P : Params) : Obj := (Obj.mk (.type "tuple") none (Data.seq #[] 0) #[])
noncomputable def o76 (P : Params) : Obj := (Obj.mk Value.none none (Data.func (FuncData.mk "minus" "Decimal.minus" (md 6 2).1 (FuncBody.stmts (md 6 2).2.1) (md 6 2).2.2 0 [] Value.none Value.none Value.none Value.none none Value.none Value.none 0)) #[])
noncomputable def o77 (P : Params) : Obj := (Obj.mk (.type "code") none (Data.fields #[(.str "minus" 279), (.str "Decimal.minus" 280), (.str "/claim/cut.py" 281), (.int 31 0), (.int 2 0), (.int 0 0), (.int 0 0), (.int 3 0), (.ref 78), (.bool Bool.true), (.int 181 0), (.ref 79), Value.none, (.ref 80), (.ref 81), (.ref 82), (.int 284 0), (.int 31 0), (.str "/claim/cut.py" 285)]) #[])
noncomputable def o78 (P : Params) : Obj := (Obj.mk (.type "function") none (Data.func (FuncData.mk "minus" "Decimal.minus" (md 6 2).1 (FuncBody.stmts (md 6 2).2.1) (md 6 2).2.2 3 [] Value.none Value.none Value.none (.str "paperhold.decimals" 248) none (.ref 83) Value.none 0)) #[])
noncomputable def o79 (P : Params) : Obj := (Obj.mk (.type "tuple") none (Data.seq #[] 0) #[])
noncomputable def o80 (P : Params) : Obj := (Obj.mk Value.none none (Data.fields #[]) #[])
noncomputable def o81 (P : Params) : Obj := (Obj.mk (.type "tuple") none (Data.seq #[(.str "self" 290), (.str "other" 291)] 0) #[])
noncomputable def o82 (P : Params) : Obj := (Obj.mk (.type "tuple") none (Data.seq #[] 0) #[])
noncomputable def o83 (P : Params) : Obj := (Obj.mk Value.none none (Data.func (FuncData.mk "times" "Decimal.times" (md 6 3).1 (FuncBody.stmts (md 6 3).2.1) (md 6 3).2.2 0 [] Value.none Value.none Value.none Value.none none Value.none Value.none 0)) #[])
noncomputable def o84 (P : Params) : Obj := (Obj.mk (.type "code") none (Data.fields #[(.str "times" 287), (.str "Decimal.times" 288), (.str "/claim/cut.py" 289), (.int 34 0), (.int 2 0), (.int 0 0), (.int 0 0), (.int 3 0), (.ref 85), (.bool Bool.true), (.int 181 0), (.ref 86), Value.none, (.ref 87), (.ref 88), (.ref 89), (.int 292 0), (.int 34 0), (.str "/claim/cut.py" 293)]) #[])
noncomputable def o85 (P : Params) : Obj := (Obj.mk (.type "function") none (Data.func (FuncData.mk "times" "Decimal.times" (md 6 3).1 (FuncBody.stmts (md 6 3).2.1) (md 6 3).2.2 3 [] Value.none Value.none Value.none (.str "paperhold.decimals" 248) none (.ref 90) Value.none 0)) #[])
noncomputable def o86 (P : Params) : Obj := (Obj.mk (.type "tuple") none (Data.seq #[] 0) #[])
noncomputable def o87 (P : Params) : Obj := (Obj.mk Value.none none (Data.fields #[]) #[])
noncomputable def o88 (P : Params) : Obj := (Obj.mk (.type "tuple") none (Data.seq #[(.str "self" 298)] 0) #[])
noncomputable def o89 (P : Params) : Obj := (Obj.mk (.type "tuple") none (Data.seq #[] 0) #[])
noncomputable def o90 (P : Params) : Obj := (Obj.mk Value.none none (Data.func (FuncData.mk "negated" "Decimal.negated" (md 6 4).1 (FuncBody.stmts (md 6 4).2.1) (md 6 4).2.2 0 [] Value.none Value.none Value.none Value.none none Value.none Value.none 0)) #[])
noncomputable def o91 (P : Params) : Obj := (Obj.mk (.type "code") none (Data.fields #[(.str "negated" 295), (.str "Decimal.negated" 296), (.str "/claim/cut.py" 297), (.int 37 0), (.int 1 0), (.int 0 0), (.int 0 0), (.int 3 0), (.ref 92), (.bool Bool.true), (.int 181 0), (.ref 93), Value.none, (.ref 94), (.ref 95), (.ref 96), (.int 299 0), (.int 37 0), (.str "/claim/cut.py" 300)]) #[])
noncomputable def o92 (P : Params) : Obj := (Obj.mk (.type "function") none (Data.func (FuncData.mk "negated" "Decimal.negated" (md 6 4).1 (FuncBody.stmts (md 6 4).2.1) (md 6 4).2.2 3 [] Value.none Value.none Value.none (.str "paperhold.decimals" 248) none (.ref 97) Value.none 0)) #[])
noncomputable def o93 (P : Params) : Obj := (Obj.mk (.type "tuple") none (Data.seq #[] 0) #[])
noncomputable def o94 (P : Params) : Obj := (Obj.mk Value.none none (Data.fields #[]) #[])
noncomputable def o95 (P : Params) : Obj := (Obj.mk (.type "tuple") none (Data.seq #[(.str "self" 305), (.str "other" 306)] 0) #[])
noncomputable def o96 (P : Params) : Obj := (Obj.mk (.type "tuple") none (Data.seq #[] 0) #[])
noncomputable def o97 (P : Params) : Obj := (Obj.mk Value.none none (Data.func (FuncData.mk "compared" "Decimal.compared" (md 6 5).1 (FuncBody.stmts (md 6 5).2.1) (md 6 5).2.2 0 [] Value.none Value.none Value.none Value.none none Value.none Value.none 0)) #[])
noncomputable def o98 (P : Params) : Obj := (Obj.mk (.type "code") none (Data.fields #[(.str "compared" 302), (.str "Decimal.compared" 303), (.str "/claim/cut.py" 304), (.int 40 0), (.int 2 0), (.int 0 0), (.int 0 0), (.int 3 0), (.ref 99), (.bool Bool.true), (.int 181 0), (.ref 100), Value.none, (.ref 101), (.ref 102), (.ref 103), (.int 307 0), (.int 40 0), (.str "/claim/cut.py" 308)]) #[])
noncomputable def o99 (P : Params) : Obj := (Obj.mk (.type "function") none (Data.func (FuncData.mk "compared" "Decimal.compared" (md 6 5).1 (FuncBody.stmts (md 6 5).2.1) (md 6 5).2.2 3 [] Value.none Value.none Value.none (.str "paperhold.decimals" 248) none (.ref 104) Value.none 0)) #[])
noncomputable def o100 (P : Params) : Obj := (Obj.mk (.type "tuple") none (Data.seq #[] 0) #[])
noncomputable def o101 (P : Params) : Obj := (Obj.mk Value.none none (Data.fields #[]) #[])
noncomputable def o102 (P : Params) : Obj := (Obj.mk (.type "tuple") none (Data.seq #[(.str "self" 313)] 0) #[])
noncomputable def o103 (P : Params) : Obj := (Obj.mk (.type "tuple") none (Data.seq #[] 0) #[])
noncomputable def o104 (P : Params) : Obj := (Obj.mk Value.none none (Data.func (FuncData.mk "is_whole" "Decimal.is_whole" (md 6 6).1 (FuncBody.stmts (md 6 6).2.1) (md 6 6).2.2 0 [] Value.none Value.none Value.none Value.none none Value.none Value.none 0)) #[])
noncomputable def o105 (P : Params) : Obj := (Obj.mk (.type "code") none (Data.fields #[(.str "is_whole" 310), (.str "Decimal.is_whole" 311), (.str "/claim/cut.py" 312), (.int 43 0), (.int 1 0), (.int 0 0), (.int 0 0), (.int 3 0), (.ref 106), (.bool Bool.true), (.int 181 0), (.ref 107), Value.none, (.ref 108), (.ref 109), (.ref 110), (.int 314 0), (.int 43 0), (.str "/claim/cut.py" 315)]) #[])
noncomputable def o106 (P : Params) : Obj := (Obj.mk (.type "function") none (Data.func (FuncData.mk "is_whole" "Decimal.is_whole" (md 6 6).1 (FuncBody.stmts (md 6 6).2.1) (md 6 6).2.2 3 [] Value.none Value.none Value.none (.str "paperhold.decimals" 248) none (.ref 111) Value.none 0)) #[])
noncomputable def o107 (P : Params) : Obj := (Obj.mk (.type "tuple") none (Data.seq #[] 0) #[])
noncomputable def o108 (P : Params) : Obj := (Obj.mk Value.none none (Data.fields #[]) #[])
noncomputable def o109 (P : Params) : Obj := (Obj.mk (.type "tuple") none (Data.seq #[(.str "self" 320)] 0) #[])
noncomputable def o110 (P : Params) : Obj := (Obj.mk (.type "tuple") none (Data.seq #[] 0) #[])
noncomputable def o111 (P : Params) : Obj := (Obj.mk Value.none none (Data.func (FuncData.mk "floor" "Decimal.floor" (md 6 7).1 (FuncBody.stmts (md 6 7).2.1) (md 6 7).2.2 0 [] Value.none Value.none Value.none Value.none none Value.none Value.none 0)) #[])
noncomputable def o112 (P : Params) : Obj := (Obj.mk (.type "code") none (Data.fields #[(.str "floor" 317), (.str "Decimal.floor" 318), (.str "/claim/cut.py" 319), (.int 46 0), (.int 1 0), (.int 0 0), (.int 0 0), (.int 3 0), (.ref 113), (.bool Bool.true), (.int 181 0), (.ref 114), Value.none, (.ref 115), (.ref 116), (.ref 117), (.int 321 0), (.int 46 0), (.str "/claim/cut.py" 322)]) #[])
noncomputable def o113 (P : Params) : Obj := (Obj.mk (.type "function") none (Data.func (FuncData.mk "floor" "Decimal.floor" (md 6 7).1 (FuncBody.stmts (md 6 7).2.1) (md 6 7).2.2 3 [] Value.none Value.none Value.none (.str "paperhold.decimals" 248) none (.ref 118) Value.none 0)) #[])
noncomputable def o114 (P : Params) : Obj := (Obj.mk (.type "tuple") none (Data.seq #[] 0) #[])
noncomputable def o115 (P : Params) : Obj := (Obj.mk Value.none none (Data.fields #[]) #[])
noncomputable def o116 (P : Params) : Obj := (Obj.mk (.type "tuple") none (Data.seq #[(.str "self" 327), (.str "places" 328)] 0) #[])
noncomputable def o117 (P : Params) : Obj := (Obj.mk (.type "tuple") none (Data.seq #[] 0) #[])
noncomputable def o118 (P : Params) : Obj := (Obj.mk Value.none none (Data.func (FuncData.mk "rounded" "Decimal.rounded" (md 6 8).1 (FuncBody.stmts (md 6 8).2.1) (md 6 8).2.2 0 [] Value.none Value.none Value.none Value.none none Value.none Value.none 0)) #[])
noncomputable def o119 (P : Params) : Obj := (Obj.mk (.type "code") none (Data.fields #[(.str "rounded" 324), (.str "Decimal.rounded" 325), (.str "/claim/cut.py" 326), (.int 49 0), (.int 2 0), (.int 0 0), (.int 0 0), (.int 3 0), (.ref 120), (.bool Bool.true), (.int 181 0), (.ref 121), Value.none, (.ref 122), (.ref 123), (.ref 124), (.int 329 0), (.int 49 0), (.str "/claim/cut.py" 330)]) #[])
noncomputable def o120 (P : Params) : Obj := (Obj.mk (.type "function") none (Data.func (FuncData.mk "rounded" "Decimal.rounded" (md 6 8).1 (FuncBody.stmts (md 6 8).2.1) (md 6 8).2.2 3 [] Value.none Value.none Value.none (.str "paperhold.decimals" 248) none (.ref 125) Value.none 0)) #[])
noncomputable def o121 (P : Params) : Obj := (Obj.mk (.type "tuple") none (Data.seq #[] 0) #[])
noncomputable def o122 (P : Params) : Obj := (Obj.mk Value.none none (Data.fields #[]) #[])
noncomputable def o123 (P : Params) : Obj := (Obj.mk (.type "tuple") none (Data.seq #[(.str "self" 335)] 0) #[])
noncomputable def o124 (P : Params) : Obj := (Obj.mk (.type "tuple") none (Data.seq #[] 0) #[])
noncomputable def o125 (P : Params) : Obj := (Obj.mk Value.none none (Data.func (FuncData.mk "told" "Decimal.told" (md 6 9).1 (FuncBody.stmts (md 6 9).2.1) (md 6 9).2.2 0 [] Value.none Value.none Value.none Value.none none Value.none Value.none 0)) #[])
noncomputable def o126 (P : Params) : Obj := (Obj.mk (.type "code") none (Data.fields #[(.str "told" 332), (.str "Decimal.told" 333), (.str "/claim/cut.py" 334), (.int 52 0), (.int 1 0), (.int 0 0), (.int 0 0), (.int 3 0), (.ref 127), (.bool Bool.true), (.int 181 0), (.ref 128), Value.none, (.ref 129), (.ref 130), (.ref 131), (.int 336 0), (.int 52 0), (.str "/claim/cut.py" 337)]) #[])
noncomputable def o127 (P : Params) : Obj := (Obj.mk (.type "function") none (Data.func (FuncData.mk "told" "Decimal.told" (md 6 9).1 (FuncBody.stmts (md 6 9).2.1) (md 6 9).2.2 3 [] Value.none Value.none Value.none (.str "paperhold.decimals" 248) none (.ref 132) Value.none 0)) #[])
noncomputable def o128 (P : Params) : Obj := (Obj.mk (.type "tuple") none (Data.seq #[] 0) #[])
noncomputable def o129 (P : Params) : Obj := (Obj.mk Value.none none (Data.fields #[]) #[])
noncomputable def o130 (P : Params) : Obj := (Obj.mk (.type "tuple") none (Data.seq #[(.str "self" 342), (.str "numerals" 343)] 0) #[])
noncomputable def o131 (P : Params) : Obj := (Obj.mk (.type "tuple") none (Data.seq #[] 0) #[])
noncomputable def o132 (P : Params) : Obj := (Obj.mk Value.none none (Data.func (FuncData.mk "text" "Decimal.text" (md 6 10).1 (FuncBody.stmts (md 6 10).2.1) (md 6 10).2.2 0 [] Value.none Value.none Value.none Value.none none Value.none Value.none 0)) #[])
noncomputable def o133 (P : Params) : Obj := (Obj.mk (.type "code") none (Data.fields #[(.str "text" 339), (.str "Decimal.text" 340), (.str "/claim/cut.py" 341), (.int 55 0), (.int 1 0), (.int 0 0), (.int 0 0), (.int 3 0), (.ref 134), (.bool Bool.true), (.int 181 0), (.ref 135), Value.none, (.ref 136), (.ref 137), (.ref 138), (.int 344 0), (.int 55 0), (.str "/claim/cut.py" 345)]) #[])
noncomputable def o134 (P : Params) : Obj := (Obj.mk (.type "function") none (Data.func (FuncData.mk "text" "Decimal.text" (md 6 10).1 (FuncBody.stmts (md 6 10).2.1) (md 6 10).2.2 3 [] Value.none Value.none Value.none (.str "paperhold.decimals" 248) none (.ref 139) Value.none 0)) #[])
noncomputable def o135 (P : Params) : Obj := (Obj.mk (.type "tuple") none (Data.seq #[] 0) #[])
noncomputable def o136 (P : Params) : Obj := (Obj.mk Value.none none (Data.fields #[]) #[])
noncomputable def o137 (P : Params) : Obj := (Obj.mk (.type "tuple") none (Data.seq #[(.str "self" 350)] 0) #[])
noncomputable def o138 (P : Params) : Obj := (Obj.mk (.type "tuple") none (Data.seq #[] 0) #[])
noncomputable def o139 (P : Params) : Obj := (Obj.mk Value.none none (Data.func (FuncData.mk "least_text" "Decimal.least_text" (md 6 11).1 (FuncBody.stmts (md 6 11).2.1) (md 6 11).2.2 0 [] Value.none Value.none Value.none Value.none none Value.none Value.none 0)) #[])
noncomputable def o140 (P : Params) : Obj := (Obj.mk (.type "code") none (Data.fields #[(.str "least_text" 347), (.str "Decimal.least_text" 348), (.str "/claim/cut.py" 349), (.int 62 0), (.int 1 0), (.int 0 0), (.int 0 0), (.int 3 0), (.ref 141), (.bool Bool.true), (.int 181 0), (.ref 142), Value.none, (.ref 143), (.ref 144), (.ref 145), (.int 351 0), (.int 62 0), (.str "/claim/cut.py" 352)]) #[])
noncomputable def o141 (P : Params) : Obj := (Obj.mk (.type "function") none (Data.func (FuncData.mk "least_text" "Decimal.least_text" (md 6 11).1 (FuncBody.stmts (md 6 11).2.1) (md 6 11).2.2 3 [] Value.none Value.none Value.none (.str "paperhold.decimals" 248) none (.ref 146) Value.none 0)) #[])
noncomputable def o142 (P : Params) : Obj := (Obj.mk (.type "tuple") none (Data.seq #[(.str "places" 354), (.str "top" 355)] 0) #[])
noncomputable def o143 (P : Params) : Obj := (Obj.mk (.type "dict") none (Data.dict #[(DictEntry.mk (keyHash P "__module__") (.str "__module__" 257) (.str "paperhold.decimals" 248)), (DictEntry.mk (keyHash P "__firstlineno__") (.str "__firstlineno__" 261) (.int 19 260)), (DictEntry.mk (keyHash P "__init__") (.str "__init__" 270) (.ref 70)), (DictEntry.mk (keyHash P "plus") (.str "plus" 278) (.ref 77)), (DictEntry.mk (keyHash P "minus") (.str "minus" 286) (.ref 84)), (DictEntry.mk (keyHash P "times") (.str "times" 294) (.ref 91)), (DictEntry.mk (keyHash P "negated") (.str "negated" 301) (.ref 98)), (DictEntry.mk (keyHash P "compared") (.str "compared" 309) (.ref 105)), (DictEntry.mk (keyHash P "is_whole") (.str "is_whole" 316) (.ref 112)), (DictEntry.mk (keyHash P "floor") (.str "floor" 323) (.ref 119)), (DictEntry.mk (keyHash P "rounded") (.str "rounded" 331) (.ref 126)), (DictEntry.mk (keyHash P "told") (.str "told" 338) (.ref 133)), (DictEntry.mk (keyHash P "text") (.str "text" 346) (.ref 140)), (DictEntry.mk (keyHash P "least_text") (.str "least_text" 353) (.ref 147)), (DictEntry.mk (keyHash P "__static_attributes__") (.str "__static_attributes__" 356) (.ref 148)), (DictEntry.mk (keyHash P "__dict__") (.str "__dict__" 358) (.ref 151)), (DictEntry.mk (keyHash P "__weakref__") (.str "__weakref__" 360) (.ref 152)), (DictEntry.mk (keyHash P "__doc__") (.str "__doc__" 361) Value.none)] 4) #[])
noncomputable def o144 (P : Params) : Obj := (Obj.mk (.type "type") none (Data.cls (ClassData.mk "Decimal" [(.type "object")] [(.ref 150), (.type "object")] 149 "Decimal" Bool.true [] [] Bool.false none Bool.false)) #[none, none, (some (.str "Decimal" 250)), (some (.str "Decimal" 258)), (some (.builtin "object.__new__")), (some (.bool Bool.true))])
noncomputable def o145 (P : Params) : Obj := (Obj.mk (.type "getset_descriptor") none (Data.fields #[(.str "__dict__" 357), (.ref 150), (.builtin "function.__dict__"), (.builtin "function.__dict__#set")]) #[])
noncomputable def o146 (P : Params) : Obj := (Obj.mk (.type "getset_descriptor") none (Data.fields #[(.str "__weakref__" 359), (.ref 150), (.builtin "ExceptionGroup.__weakref__"), Value.none]) #[])
noncomputable def o147 (P : Params) : Obj := (Obj.mk (.type "super") none (Data.fields #[(.ref 150), (.ref 150), (.ref 150)]) #[])
noncomputable def o148 (P : Params) : Obj := (Obj.mk (.type "builtin_function_or_method") none (Data.fields #[(.builtin "object.__init_subclass__"), (.ref 150)]) #[])
noncomputable def tr_g1 (P : Params) : BT := (BT.node (boot_o_0 P) (BT.node (boot_o_1 P) (BT.node (o49 P) (BT.node (boot_o_7 P) (BT.node (o7 P) (BT.node (o23 P) (BT.node (o57 P) (BT.node (o121 P) BT.nil BT.nil) BT.nil) (BT.node (o89 P) BT.nil BT.nil)) (BT.node (o39 P) (BT.node (o73 P) (BT.node (o137 P) BT.nil BT.nil) BT.nil) (BT.node (o105 P) BT.nil BT.nil))) (BT.node (o15 P) (BT.node (o31 P) (BT.node (o65 P) (BT.node (o129 P) BT.nil BT.nil) BT.nil) (BT.node (o97 P) BT.nil BT.nil)) (BT.node (o47 P) (BT.node (o81 P) (BT.node (o145 P) BT.nil BT.nil) BT.nil) (BT.node (o113 P) BT.nil BT.nil)))) (BT.node (o0 P) (BT.node (o11 P) (BT.node (o27 P) (BT.node (o61 P) (BT.node (o125 P) BT.nil BT.nil) BT.nil) (BT.node (o93 P) BT.nil BT.nil)) (BT.node (o43 P) (BT.node (o77 P) (BT.node (o141 P) BT.nil BT.nil) BT.nil) (BT.node (o109 P) BT.nil BT.nil))) (BT.node (o19 P) (BT.node (o35 P) (BT.node (o69 P) (BT.node (o133 P) BT.nil BT.nil) BT.nil) (BT.node (o101 P) BT.nil BT.nil)) (BT.node (o53 P) (BT.node (o85 P) BT.nil BT.nil) (BT.node (o117 P) BT.nil BT.nil))))) (BT.node (boot_o_5 P) (BT.node (boot_o_9 P) (BT.node (o9 P) (BT.node (o25 P) (BT.node (o59 P) (BT.node (o123 P) BT.nil BT.nil) BT.nil) (BT.node (o91 P) BT.nil BT.nil)) (BT.node (o41 P) (BT.node (o75 P) (BT.node (o139 P) BT.nil BT.nil) BT.nil) (BT.node (o107 P) BT.nil BT.nil))) (BT.node (o17 P) (BT.node (o33 P) (BT.node (o67 P) (BT.node (o131 P) BT.nil BT.nil) BT.nil) (BT.node (o99 P) BT.nil BT.nil)) (BT.node (o51 P) (BT.node (o83 P) (BT.node (o147 P) BT.nil BT.nil) BT.nil) (BT.node (o115 P) BT.nil BT.nil)))) (BT.node (o2 P) (BT.node (o13 P) (BT.node (o29 P) (BT.node (o63 P) (BT.node (o127 P) BT.nil BT.nil) BT.nil) (BT.node (o95 P) BT.nil BT.nil)) (BT.node (o45 P) (BT.node (o79 P) (BT.node (o143 P) BT.nil BT.nil) BT.nil) (BT.node (o111 P) BT.nil BT.nil))) (BT.node (o21 P) (BT.node (o37 P) (BT.node (o71 P) (BT.node (o135 P) BT.nil BT.nil) BT.nil) (BT.node (o103 P) BT.nil BT.nil)) (BT.node (o55 P) (BT.node (o87 P) BT.nil BT.nil) (BT.node (o119 P) BT.nil BT.nil)))))) (BT.node (o4 P) (BT.node (boot_o_4 P) (BT.node (boot_o_8 P) (BT.node (o8 P) (BT.node (o24 P) (BT.node (o58 P) (BT.node (o122 P) BT.nil BT.nil) BT.nil) (BT.node (o90 P) BT.nil BT.nil)) (BT.node (o40 P) (BT.node (o74 P) (BT.node (o138 P) BT.nil BT.nil) BT.nil) (BT.node (o106 P) BT.nil BT.nil))) (BT.node (o16 P) (BT.node (o32 P) (BT.node (o66 P) (BT.node (o130 P) BT.nil BT.nil) BT.nil) (BT.node (o98 P) BT.nil BT.nil)) (BT.node (o48 P) (BT.node (o82 P) (BT.node (o146 P) BT.nil BT.nil) BT.nil) (BT.node (o114 P) BT.nil BT.nil)))) (BT.node (o50 P) (BT.node (o12 P) (BT.node (o28 P) (BT.node (o62 P) (BT.node (o126 P) BT.nil BT.nil) BT.nil) (BT.node (o94 P) BT.nil BT.nil)) (BT.node (o44 P) (BT.node (o78 P) (BT.node (o142 P) BT.nil BT.nil) BT.nil) (BT.node (o110 P) BT.nil BT.nil))) (BT.node (o20 P) (BT.node (o36 P) (BT.node (o70 P) (BT.node (o134 P) BT.nil BT.nil) BT.nil) (BT.node (o102 P) BT.nil BT.nil)) (BT.node (o54 P) (BT.node (o86 P) BT.nil BT.nil) (BT.node (o118 P) BT.nil BT.nil))))) (BT.node (boot_o_6 P) (BT.node (boot_o_10 P) (BT.node (o10 P) (BT.node (o26 P) (BT.node (o60 P) (BT.node (o124 P) BT.nil BT.nil) BT.nil) (BT.node (o92 P) BT.nil BT.nil)) (BT.node (o42 P) (BT.node (o76 P) (BT.node (o140 P) BT.nil BT.nil) BT.nil) (BT.node (o108 P) BT.nil BT.nil))) (BT.node (o18 P) (BT.node (o34 P) (BT.node (o68 P) (BT.node (o132 P) BT.nil BT.nil) BT.nil) (BT.node (o100 P) BT.nil BT.nil)) (BT.node (o52 P) (BT.node (o84 P) (BT.node (o148 P) BT.nil BT.nil) BT.nil) (BT.node (o116 P) BT.nil BT.nil)))) (BT.node (o3 P) (BT.node (o14 P) (BT.node (o30 P) (BT.node (o64 P) (BT.node (o128 P) BT.nil BT.nil) BT.nil) (BT.node (o96 P) BT.nil BT.nil)) (BT.node (o46 P) (BT.node (o80 P) (BT.node (o144 P) BT.nil BT.nil) BT.nil) (BT.node (o112 P) BT.nil BT.nil))) (BT.node (o22 P) (BT.node (o38 P) (BT.node (o72 P) (BT.node (o136 P) BT.nil BT.nil) BT.nil) (BT.node (o104 P) BT.nil BT.nil)) (BT.node (o56 P) (BT.node (o88 P) BT.nil BT.nil) (BT.node (o120 P) BT.nil BT.nil)))))))
noncomputable def o149 (P : Params) : Obj := (Obj.mk (.type "dict") none (Data.dict #[(DictEntry.mk (keyHash P "__name__") (.str "__name__" 165) (.str "paperhold.objects" 371)), (DictEntry.mk (keyHash P "__doc__") (.str "__doc__" 166) Value.none), (DictEntry.mk (keyHash P "__package__") (.str "__package__" 167) Value.none), (DictEntry.mk (keyHash P "__loader__") (.str "__loader__" 168) (.builtin "__main__.__loader__#opaque")), (DictEntry.mk (keyHash P "__spec__") (.str "__spec__" 169) Value.none), (DictEntry.mk (keyHash P "__annotations__") (.str "__annotations__" 170) (.ref 6)), (DictEntry.mk (keyHash P "__builtins__") (.str "__builtins__" 171) (.ref 4)), (DictEntry.mk (keyHash P "__file__") (.str "__file__" 173) (.str "/claim/cut.py" 172)), (DictEntry.mk (keyHash P "__cached__") (.str "__cached__" 174) Value.none), (DictEntry.mk (keyHash P "_wall") (.str "_wall" 193) (.ref 21)), (DictEntry.mk (keyHash P "is_there") (.str "is_there" 205) (.ref 28)), (DictEntry.mk (keyHash P "PaperError") (.str "PaperError" 247) (.ref 53)), (DictEntry.mk (keyHash P "Decimal") (.str "Decimal" 363) (.ref 150)), (DictEntry.mk (keyHash P "sign_text") (.str "sign_text" 370) (.ref 161)), (DictEntry.mk (keyHash P "MOST_HOPS") (.str "MOST_HOPS" 374) (.int 30 373)), (DictEntry.mk (keyHash P "Name") (.str "Name" 403) (.ref 178))] 16) #[])
noncomputable def o150 (P : Params) : Obj := (Obj.mk Value.none none (Data.fields #[(.int 1 0), (.int 0 0), (.ref 20), (.int 5 0), (.int 0 0), (.ref 27), (.int 9 0), (.int 0 0), (.ref 34), (.int 19 0), (.int 0 0), (.ref 62), (.int 64 0), (.int 0 0), (.ref 160), (.int 68 0), (.int 0 0), (.ref 167)]) #[])
noncomputable def o151 (P : Params) : Obj := (Obj.mk (.type "tuple") none (Data.seq #[] 0) #[])
noncomputable def o152 (P : Params) : Obj := (Obj.mk Value.none none (Data.fields #[]) #[])
noncomputable def o153 (P : Params) : Obj := (Obj.mk (.type "tuple") none (Data.seq #[(.str "number" 367)] 0) #[])
noncomputable def o154 (P : Params) : Obj := (Obj.mk (.type "tuple") none (Data.seq #[] 0) #[])
noncomputable def o155 (P : Params) : Obj := (Obj.mk Value.none none (Data.func (FuncData.mk "sign_text" "sign_text" (fd 7).1 (FuncBody.stmts (fd 7).2.1) (fd 7).2.2 0 [] Value.none Value.none Value.none Value.none none Value.none Value.none 0)) #[])
noncomputable def o156 (P : Params) : Obj := (Obj.mk (.type "code") none (Data.fields #[(.str "sign_text" 364), (.str "sign_text" 365), (.str "/claim/cut.py" 366), (.int 64 0), (.int 1 0), (.int 0 0), (.int 0 0), (.int 3 0), (.ref 155), (.bool Bool.true), (.int 181 0), (.ref 156), Value.none, (.ref 157), (.ref 158), (.ref 159), (.int 368 0), (.int 64 0), (.str "/claim/cut.py" 369)]) #[])
noncomputable def o157 (P : Params) : Obj := (Obj.mk (.type "function") none (Data.func (FuncData.mk "sign_text" "sign_text" (fd 7).1 (FuncBody.stmts (fd 7).2.1) (fd 7).2.2 3 [] Value.none Value.none Value.none (.str "paperhold.decimals" 248) none (.ref 160) Value.none 0)) #[])
noncomputable def o158 (P : Params) : Obj := (Obj.mk (.type "tuple") none (Data.seq #[] 0) #[])
noncomputable def o159 (P : Params) : Obj := (Obj.mk (.type "builtin_function_or_method") none (Data.fields #[(.builtin "type.__prepare__"), (.type "type")]) #[])
noncomputable def o160 (P : Params) : Obj := (Obj.mk (.type "dict") none (Data.dict #[(DictEntry.mk (keyHash P "__module__") (.str "__module__" 382) (.str "paperhold.objects" 371)), (DictEntry.mk (keyHash P "__qualname__") (.str "__qualname__" 384) (.str "Name" 383)), (DictEntry.mk (keyHash P "__firstlineno__") (.str "__firstlineno__" 386) (.int 68 385)), (DictEntry.mk (keyHash P "__init__") (.str "__init__" 394) (.ref 175)), (DictEntry.mk (keyHash P "__static_attributes__") (.str "__static_attributes__" 396) (.ref 176))] 5) #[])
noncomputable def o161 (P : Params) : Obj := (Obj.mk (.type "tuple") none (Data.seq #[] 0) #[])
noncomputable def o162 (P : Params) : Obj := (Obj.mk Value.none none (Data.fields #[(.int 70 0), (.int 4 0), (.ref 174)]) #[])
noncomputable def o163 (P : Params) : Obj := (Obj.mk (.type "code") none (Data.fields #[(.str "Name" 377), (.str "Name" 378), (.str "/claim/cut.py" 379), (.int 68 0), (.int 0 0), (.int 0 0), (.int 0 0), (.int 0 0), (.ref 165), (.bool Bool.false), (.int 181 0), (.ref 166), Value.none, Value.none, Value.none, Value.none, (.int 380 0), (.int 68 0), (.str "/claim/cut.py" 381)]) #[])
noncomputable def o164 (P : Params) : Obj := (Obj.mk (.type "frame") none Data.plain #[(some (.ref 167)), (some (.ref 3)), (some (.ref 164)), none, (some (.str "paperhold.objects" 371)), none, (some (.ref 0))])
noncomputable def o165 (P : Params) : Obj := (Obj.mk (.type "tuple") none (Data.seq #[] 0) #[])
noncomputable def o166 (P : Params) : Obj := (Obj.mk Value.none none (Data.fields #[]) #[])
noncomputable def o167 (P : Params) : Obj := (Obj.mk (.type "tuple") none (Data.seq #[(.str "self" 390), (.str "text" 391)] 0) #[])
noncomputable def o168 (P : Params) : Obj := (Obj.mk (.type "tuple") none (Data.seq #[] 0) #[])
noncomputable def o169 (P : Params) : Obj := (Obj.mk Value.none none (Data.func (FuncData.mk "__init__" "Name.__init__" (md 10 0).1 (FuncBody.stmts (md 10 0).2.1) (md 10 0).2.2 0 [] Value.none Value.none Value.none Value.none none Value.none Value.none 0)) #[])
noncomputable def o170 (P : Params) : Obj := (Obj.mk (.type "code") none (Data.fields #[(.str "__init__" 387), (.str "Name.__init__" 388), (.str "/claim/cut.py" 389), (.int 70 0), (.int 2 0), (.int 0 0), (.int 0 0), (.int 3 0), (.ref 169), (.bool Bool.true), (.int 181 0), (.ref 170), Value.none, (.ref 171), (.ref 172), (.ref 173), (.int 392 0), (.int 70 0), (.str "/claim/cut.py" 393)]) #[])
noncomputable def o171 (P : Params) : Obj := (Obj.mk (.type "function") none (Data.func (FuncData.mk "__init__" "Name.__init__" (md 10 0).1 (FuncBody.stmts (md 10 0).2.1) (md 10 0).2.2 3 [] Value.none Value.none Value.none (.str "paperhold.objects" 371) none (.ref 174) Value.none 0)) #[])
noncomputable def o172 (P : Params) : Obj := (Obj.mk (.type "tuple") none (Data.seq #[(.str "text" 395)] 0) #[])
noncomputable def o173 (P : Params) : Obj := (Obj.mk (.type "dict") none (Data.dict #[(DictEntry.mk (keyHash P "__module__") (.str "__module__" 382) (.str "paperhold.objects" 371)), (DictEntry.mk (keyHash P "__firstlineno__") (.str "__firstlineno__" 386) (.int 68 385)), (DictEntry.mk (keyHash P "__init__") (.str "__init__" 394) (.ref 175)), (DictEntry.mk (keyHash P "__static_attributes__") (.str "__static_attributes__" 396) (.ref 176)), (DictEntry.mk (keyHash P "__dict__") (.str "__dict__" 398) (.ref 179)), (DictEntry.mk (keyHash P "__weakref__") (.str "__weakref__" 400) (.ref 180)), (DictEntry.mk (keyHash P "__doc__") (.str "__doc__" 401) Value.none)] 4) #[])
noncomputable def o174 (P : Params) : Obj := (Obj.mk (.type "type") none (Data.cls (ClassData.mk "Name" [(.type "object")] [(.ref 178), (.type "object")] 177 "Name" Bool.true [] [] Bool.false none Bool.false)) #[none, none, (some (.str "Name" 375)), (some (.str "Name" 383)), (some (.builtin "object.__new__")), (some (.bool Bool.true))])
noncomputable def o175 (P : Params) : Obj := (Obj.mk (.type "getset_descriptor") none (Data.fields #[(.str "__dict__" 397), (.ref 178), (.builtin "function.__dict__"), (.builtin "function.__dict__#set")]) #[])
noncomputable def o176 (P : Params) : Obj := (Obj.mk (.type "getset_descriptor") none (Data.fields #[(.str "__weakref__" 399), (.ref 178), (.builtin "ExceptionGroup.__weakref__"), Value.none]) #[])
noncomputable def o177 (P : Params) : Obj := (Obj.mk (.type "super") none (Data.fields #[(.ref 178), (.ref 178), (.ref 178)]) #[])
noncomputable def o178 (P : Params) : Obj := (Obj.mk (.type "builtin_function_or_method") none (Data.fields #[(.builtin "object.__init_subclass__"), (.ref 178)]) #[])
noncomputable def tr_g2 (P : Params) : BT := (BT.node (boot_o_0 P) (BT.node (boot_o_1 P) (BT.node (o149 P) (BT.node (boot_o_7 P) (BT.node (o7 P) (BT.node (o23 P) (BT.node (o57 P) (BT.node (o121 P) BT.nil BT.nil) BT.nil) (BT.node (o89 P) (BT.node (o155 P) BT.nil BT.nil) BT.nil)) (BT.node (o39 P) (BT.node (o73 P) (BT.node (o137 P) BT.nil BT.nil) BT.nil) (BT.node (o105 P) (BT.node (o171 P) BT.nil BT.nil) BT.nil))) (BT.node (o15 P) (BT.node (o31 P) (BT.node (o65 P) (BT.node (o129 P) BT.nil BT.nil) BT.nil) (BT.node (o97 P) (BT.node (o163 P) BT.nil BT.nil) BT.nil)) (BT.node (o47 P) (BT.node (o81 P) (BT.node (o145 P) BT.nil BT.nil) BT.nil) (BT.node (o113 P) BT.nil BT.nil)))) (BT.node (o0 P) (BT.node (o11 P) (BT.node (o27 P) (BT.node (o61 P) (BT.node (o125 P) BT.nil BT.nil) BT.nil) (BT.node (o93 P) (BT.node (o159 P) BT.nil BT.nil) BT.nil)) (BT.node (o43 P) (BT.node (o77 P) (BT.node (o141 P) BT.nil BT.nil) BT.nil) (BT.node (o109 P) (BT.node (o175 P) BT.nil BT.nil) BT.nil))) (BT.node (o19 P) (BT.node (o35 P) (BT.node (o69 P) (BT.node (o133 P) BT.nil BT.nil) BT.nil) (BT.node (o101 P) (BT.node (o167 P) BT.nil BT.nil) BT.nil)) (BT.node (o53 P) (BT.node (o85 P) (BT.node (o151 P) BT.nil BT.nil) BT.nil) (BT.node (o117 P) BT.nil BT.nil))))) (BT.node (boot_o_5 P) (BT.node (boot_o_9 P) (BT.node (o9 P) (BT.node (o25 P) (BT.node (o59 P) (BT.node (o123 P) BT.nil BT.nil) BT.nil) (BT.node (o91 P) (BT.node (o157 P) BT.nil BT.nil) BT.nil)) (BT.node (o41 P) (BT.node (o75 P) (BT.node (o139 P) BT.nil BT.nil) BT.nil) (BT.node (o107 P) (BT.node (o173 P) BT.nil BT.nil) BT.nil))) (BT.node (o17 P) (BT.node (o33 P) (BT.node (o67 P) (BT.node (o131 P) BT.nil BT.nil) BT.nil) (BT.node (o99 P) (BT.node (o165 P) BT.nil BT.nil) BT.nil)) (BT.node (o51 P) (BT.node (o83 P) (BT.node (o147 P) BT.nil BT.nil) BT.nil) (BT.node (o115 P) BT.nil BT.nil)))) (BT.node (o2 P) (BT.node (o13 P) (BT.node (o29 P) (BT.node (o63 P) (BT.node (o127 P) BT.nil BT.nil) BT.nil) (BT.node (o95 P) (BT.node (o161 P) BT.nil BT.nil) BT.nil)) (BT.node (o45 P) (BT.node (o79 P) (BT.node (o143 P) BT.nil BT.nil) BT.nil) (BT.node (o111 P) (BT.node (o177 P) BT.nil BT.nil) BT.nil))) (BT.node (o21 P) (BT.node (o37 P) (BT.node (o71 P) (BT.node (o135 P) BT.nil BT.nil) BT.nil) (BT.node (o103 P) (BT.node (o169 P) BT.nil BT.nil) BT.nil)) (BT.node (o55 P) (BT.node (o87 P) (BT.node (o153 P) BT.nil BT.nil) BT.nil) (BT.node (o119 P) BT.nil BT.nil)))))) (BT.node (o4 P) (BT.node (boot_o_4 P) (BT.node (boot_o_8 P) (BT.node (o8 P) (BT.node (o24 P) (BT.node (o58 P) (BT.node (o122 P) BT.nil BT.nil) BT.nil) (BT.node (o90 P) (BT.node (o156 P) BT.nil BT.nil) BT.nil)) (BT.node (o40 P) (BT.node (o74 P) (BT.node (o138 P) BT.nil BT.nil) BT.nil) (BT.node (o106 P) (BT.node (o172 P) BT.nil BT.nil) BT.nil))) (BT.node (o16 P) (BT.node (o32 P) (BT.node (o66 P) (BT.node (o130 P) BT.nil BT.nil) BT.nil) (BT.node (o98 P) (BT.node (o164 P) BT.nil BT.nil) BT.nil)) (BT.node (o48 P) (BT.node (o82 P) (BT.node (o146 P) BT.nil BT.nil) BT.nil) (BT.node (o114 P) BT.nil BT.nil)))) (BT.node (o150 P) (BT.node (o12 P) (BT.node (o28 P) (BT.node (o62 P) (BT.node (o126 P) BT.nil BT.nil) BT.nil) (BT.node (o94 P) (BT.node (o160 P) BT.nil BT.nil) BT.nil)) (BT.node (o44 P) (BT.node (o78 P) (BT.node (o142 P) BT.nil BT.nil) BT.nil) (BT.node (o110 P) (BT.node (o176 P) BT.nil BT.nil) BT.nil))) (BT.node (o20 P) (BT.node (o36 P) (BT.node (o70 P) (BT.node (o134 P) BT.nil BT.nil) BT.nil) (BT.node (o102 P) (BT.node (o168 P) BT.nil BT.nil) BT.nil)) (BT.node (o54 P) (BT.node (o86 P) (BT.node (o152 P) BT.nil BT.nil) BT.nil) (BT.node (o118 P) BT.nil BT.nil))))) (BT.node (boot_o_6 P) (BT.node (boot_o_10 P) (BT.node (o10 P) (BT.node (o26 P) (BT.node (o60 P) (BT.node (o124 P) BT.nil BT.nil) BT.nil) (BT.node (o92 P) (BT.node (o158 P) BT.nil BT.nil) BT.nil)) (BT.node (o42 P) (BT.node (o76 P) (BT.node (o140 P) BT.nil BT.nil) BT.nil) (BT.node (o108 P) (BT.node (o174 P) BT.nil BT.nil) BT.nil))) (BT.node (o18 P) (BT.node (o34 P) (BT.node (o68 P) (BT.node (o132 P) BT.nil BT.nil) BT.nil) (BT.node (o100 P) (BT.node (o166 P) BT.nil BT.nil) BT.nil)) (BT.node (o52 P) (BT.node (o84 P) (BT.node (o148 P) BT.nil BT.nil) BT.nil) (BT.node (o116 P) BT.nil BT.nil)))) (BT.node (o3 P) (BT.node (o14 P) (BT.node (o30 P) (BT.node (o64 P) (BT.node (o128 P) BT.nil BT.nil) BT.nil) (BT.node (o96 P) (BT.node (o162 P) BT.nil BT.nil) BT.nil)) (BT.node (o46 P) (BT.node (o80 P) (BT.node (o144 P) BT.nil BT.nil) BT.nil) (BT.node (o112 P) (BT.node (o178 P) BT.nil BT.nil) BT.nil))) (BT.node (o22 P) (BT.node (o38 P) (BT.node (o72 P) (BT.node (o136 P) BT.nil BT.nil) BT.nil) (BT.node (o104 P) (BT.node (o170 P) BT.nil BT.nil) BT.nil)) (BT.node (o56 P) (BT.node (o88 P) (BT.node (o154 P) BT.nil BT.nil) BT.nil) (BT.node (o120 P) BT.nil BT.nil)))))))
noncomputable def o179 (P : Params) : Obj := (Obj.mk (.type "dict") none (Data.dict #[(DictEntry.mk (keyHash P "__name__") (.str "__name__" 165) (.str "paperhold.objects" 371)), (DictEntry.mk (keyHash P "__doc__") (.str "__doc__" 166) Value.none), (DictEntry.mk (keyHash P "__package__") (.str "__package__" 167) Value.none), (DictEntry.mk (keyHash P "__loader__") (.str "__loader__" 168) (.builtin "__main__.__loader__#opaque")), (DictEntry.mk (keyHash P "__spec__") (.str "__spec__" 169) Value.none), (DictEntry.mk (keyHash P "__annotations__") (.str "__annotations__" 170) (.ref 6)), (DictEntry.mk (keyHash P "__builtins__") (.str "__builtins__" 171) (.ref 4)), (DictEntry.mk (keyHash P "__file__") (.str "__file__" 173) (.str "/claim/cut.py" 172)), (DictEntry.mk (keyHash P "__cached__") (.str "__cached__" 174) Value.none), (DictEntry.mk (keyHash P "_wall") (.str "_wall" 193) (.ref 21)), (DictEntry.mk (keyHash P "is_there") (.str "is_there" 205) (.ref 28)), (DictEntry.mk (keyHash P "PaperError") (.str "PaperError" 247) (.ref 53)), (DictEntry.mk (keyHash P "Decimal") (.str "Decimal" 363) (.ref 150)), (DictEntry.mk (keyHash P "sign_text") (.str "sign_text" 370) (.ref 161)), (DictEntry.mk (keyHash P "MOST_HOPS") (.str "MOST_HOPS" 374) (.int 30 373)), (DictEntry.mk (keyHash P "Name") (.str "Name" 403) (.ref 178)), (DictEntry.mk (keyHash P "String") (.str "String" 434) (.ref 200))] 17) #[])
noncomputable def o180 (P : Params) : Obj := (Obj.mk Value.none none (Data.fields #[(.int 1 0), (.int 0 0), (.ref 20), (.int 5 0), (.int 0 0), (.ref 27), (.int 9 0), (.int 0 0), (.ref 34), (.int 19 0), (.int 0 0), (.ref 62), (.int 64 0), (.int 0 0), (.ref 160), (.int 68 0), (.int 0 0), (.ref 167), (.int 72 0), (.int 0 0), (.ref 188)]) #[])
noncomputable def o181 (P : Params) : Obj := (Obj.mk (.type "tuple") none (Data.seq #[] 0) #[])
noncomputable def o182 (P : Params) : Obj := (Obj.mk (.type "builtin_function_or_method") none (Data.fields #[(.builtin "type.__prepare__"), (.type "type")]) #[])
noncomputable def o183 (P : Params) : Obj := (Obj.mk (.type "dict") none (Data.dict #[(DictEntry.mk (keyHash P "__module__") (.str "__module__" 411) (.str "paperhold.objects" 371)), (DictEntry.mk (keyHash P "__qualname__") (.str "__qualname__" 413) (.str "String" 412)), (DictEntry.mk (keyHash P "__firstlineno__") (.str "__firstlineno__" 415) (.int 72 414)), (DictEntry.mk (keyHash P "__init__") (.str "__init__" 424) (.ref 197)), (DictEntry.mk (keyHash P "__static_attributes__") (.str "__static_attributes__" 427) (.ref 198))] 5) #[])
noncomputable def o184 (P : Params) : Obj := (Obj.mk (.type "tuple") none (Data.seq #[] 0) #[])
noncomputable def o185 (P : Params) : Obj := (Obj.mk Value.none none (Data.fields #[(.int 74 0), (.int 4 0), (.ref 196)]) #[])
noncomputable def o186 (P : Params) : Obj := (Obj.mk (.type "code") none (Data.fields #[(.str "String" 406), (.str "String" 407), (.str "/claim/cut.py" 408), (.int 72 0), (.int 0 0), (.int 0 0), (.int 0 0), (.int 0 0), (.ref 186), (.bool Bool.false), (.int 181 0), (.ref 187), Value.none, Value.none, Value.none, Value.none, (.int 409 0), (.int 72 0), (.str "/claim/cut.py" 410)]) #[])
noncomputable def o187 (P : Params) : Obj := (Obj.mk (.type "frame") none Data.plain #[(some (.ref 188)), (some (.ref 3)), (some (.ref 185)), none, (some (.str "paperhold.objects" 371)), none, (some (.ref 0))])
noncomputable def o188 (P : Params) : Obj := (Obj.mk (.type "tuple") none (Data.seq #[(.bool Bool.false)] 0) #[])
noncomputable def o189 (P : Params) : Obj := (Obj.mk (.type "tuple") none (Data.seq #[] 0) #[])
noncomputable def o190 (P : Params) : Obj := (Obj.mk Value.none none (Data.fields #[]) #[])
noncomputable def o191 (P : Params) : Obj := (Obj.mk (.type "tuple") none (Data.seq #[(.str "self" 419), (.str "octets" 420), (.str "is_hex" 421)] 0) #[])
noncomputable def o192 (P : Params) : Obj := (Obj.mk (.type "tuple") none (Data.seq #[] 0) #[])
noncomputable def o193 (P : Params) : Obj := (Obj.mk Value.none none (Data.func (FuncData.mk "__init__" "String.__init__" (md 11 0).1 (FuncBody.stmts (md 11 0).2.1) (md 11 0).2.2 0 [] Value.none Value.none Value.none Value.none none Value.none Value.none 0)) #[])
noncomputable def o194 (P : Params) : Obj := (Obj.mk (.type "code") none (Data.fields #[(.str "__init__" 416), (.str "String.__init__" 417), (.str "/claim/cut.py" 418), (.int 74 0), (.int 3 0), (.int 0 0), (.int 0 0), (.int 3 0), (.ref 191), (.bool Bool.true), (.int 181 0), (.ref 192), Value.none, (.ref 193), (.ref 194), (.ref 195), (.int 422 0), (.int 74 0), (.str "/claim/cut.py" 423)]) #[])
noncomputable def o195 (P : Params) : Obj := (Obj.mk (.type "function") none (Data.func (FuncData.mk "__init__" "String.__init__" (md 11 0).1 (FuncBody.stmts (md 11 0).2.1) (md 11 0).2.2 3 [] (.ref 190) Value.none Value.none (.str "paperhold.objects" 371) none (.ref 196) Value.none 0)) #[])
noncomputable def o196 (P : Params) : Obj := (Obj.mk (.type "tuple") none (Data.seq #[(.str "is_hex" 425), (.str "octets" 426)] 0) #[])
noncomputable def o197 (P : Params) : Obj := (Obj.mk (.type "dict") none (Data.dict #[(DictEntry.mk (keyHash P "__module__") (.str "__module__" 411) (.str "paperhold.objects" 371)), (DictEntry.mk (keyHash P "__firstlineno__") (.str "__firstlineno__" 415) (.int 72 414)), (DictEntry.mk (keyHash P "__init__") (.str "__init__" 424) (.ref 197)), (DictEntry.mk (keyHash P "__static_attributes__") (.str "__static_attributes__" 427) (.ref 198)), (DictEntry.mk (keyHash P "__dict__") (.str "__dict__" 429) (.ref 201)), (DictEntry.mk (keyHash P "__weakref__") (.str "__weakref__" 431) (.ref 202)), (DictEntry.mk (keyHash P "__doc__") (.str "__doc__" 432) Value.none)] 4) #[])
noncomputable def o198 (P : Params) : Obj := (Obj.mk (.type "type") none (Data.cls (ClassData.mk "String" [(.type "object")] [(.ref 200), (.type "object")] 199 "String" Bool.true [] [] Bool.false none Bool.false)) #[none, none, (some (.str "String" 404)), (some (.str "String" 412)), (some (.builtin "object.__new__")), (some (.bool Bool.true))])
noncomputable def o199 (P : Params) : Obj := (Obj.mk (.type "getset_descriptor") none (Data.fields #[(.str "__dict__" 428), (.ref 200), (.builtin "function.__dict__"), (.builtin "function.__dict__#set")]) #[])
noncomputable def o200 (P : Params) : Obj := (Obj.mk (.type "getset_descriptor") none (Data.fields #[(.str "__weakref__" 430), (.ref 200), (.builtin "ExceptionGroup.__weakref__"), Value.none]) #[])
noncomputable def o201 (P : Params) : Obj := (Obj.mk (.type "super") none (Data.fields #[(.ref 200), (.ref 200), (.ref 200)]) #[])
noncomputable def o202 (P : Params) : Obj := (Obj.mk (.type "builtin_function_or_method") none (Data.fields #[(.builtin "object.__init_subclass__"), (.ref 200)]) #[])
noncomputable def tr_g3 (P : Params) : BT := (BT.node (boot_o_0 P) (BT.node (boot_o_1 P) (BT.node (o179 P) (BT.node (boot_o_7 P) (BT.node (o7 P) (BT.node (o23 P) (BT.node (o57 P) (BT.node (o121 P) BT.nil BT.nil) (BT.node (o189 P) BT.nil BT.nil)) (BT.node (o89 P) (BT.node (o155 P) BT.nil BT.nil) BT.nil)) (BT.node (o39 P) (BT.node (o73 P) (BT.node (o137 P) BT.nil BT.nil) BT.nil) (BT.node (o105 P) (BT.node (o171 P) BT.nil BT.nil) BT.nil))) (BT.node (o15 P) (BT.node (o31 P) (BT.node (o65 P) (BT.node (o129 P) BT.nil BT.nil) (BT.node (o197 P) BT.nil BT.nil)) (BT.node (o97 P) (BT.node (o163 P) BT.nil BT.nil) BT.nil)) (BT.node (o47 P) (BT.node (o81 P) (BT.node (o145 P) BT.nil BT.nil) BT.nil) (BT.node (o113 P) (BT.node (o181 P) BT.nil BT.nil) BT.nil)))) (BT.node (o0 P) (BT.node (o11 P) (BT.node (o27 P) (BT.node (o61 P) (BT.node (o125 P) BT.nil BT.nil) (BT.node (o193 P) BT.nil BT.nil)) (BT.node (o93 P) (BT.node (o159 P) BT.nil BT.nil) BT.nil)) (BT.node (o43 P) (BT.node (o77 P) (BT.node (o141 P) BT.nil BT.nil) BT.nil) (BT.node (o109 P) (BT.node (o175 P) BT.nil BT.nil) BT.nil))) (BT.node (o19 P) (BT.node (o35 P) (BT.node (o69 P) (BT.node (o133 P) BT.nil BT.nil) (BT.node (o201 P) BT.nil BT.nil)) (BT.node (o101 P) (BT.node (o167 P) BT.nil BT.nil) BT.nil)) (BT.node (o53 P) (BT.node (o85 P) (BT.node (o151 P) BT.nil BT.nil) BT.nil) (BT.node (o117 P) (BT.node (o185 P) BT.nil BT.nil) BT.nil))))) (BT.node (boot_o_5 P) (BT.node (boot_o_9 P) (BT.node (o9 P) (BT.node (o25 P) (BT.node (o59 P) (BT.node (o123 P) BT.nil BT.nil) (BT.node (o191 P) BT.nil BT.nil)) (BT.node (o91 P) (BT.node (o157 P) BT.nil BT.nil) BT.nil)) (BT.node (o41 P) (BT.node (o75 P) (BT.node (o139 P) BT.nil BT.nil) BT.nil) (BT.node (o107 P) (BT.node (o173 P) BT.nil BT.nil) BT.nil))) (BT.node (o17 P) (BT.node (o33 P) (BT.node (o67 P) (BT.node (o131 P) BT.nil BT.nil) (BT.node (o199 P) BT.nil BT.nil)) (BT.node (o99 P) (BT.node (o165 P) BT.nil BT.nil) BT.nil)) (BT.node (o51 P) (BT.node (o83 P) (BT.node (o147 P) BT.nil BT.nil) BT.nil) (BT.node (o115 P) (BT.node (o183 P) BT.nil BT.nil) BT.nil)))) (BT.node (o2 P) (BT.node (o13 P) (BT.node (o29 P) (BT.node (o63 P) (BT.node (o127 P) BT.nil BT.nil) (BT.node (o195 P) BT.nil BT.nil)) (BT.node (o95 P) (BT.node (o161 P) BT.nil BT.nil) BT.nil)) (BT.node (o45 P) (BT.node (o79 P) (BT.node (o143 P) BT.nil BT.nil) BT.nil) (BT.node (o111 P) (BT.node (o177 P) BT.nil BT.nil) BT.nil))) (BT.node (o21 P) (BT.node (o37 P) (BT.node (o71 P) (BT.node (o135 P) BT.nil BT.nil) BT.nil) (BT.node (o103 P) (BT.node (o169 P) BT.nil BT.nil) BT.nil)) (BT.node (o55 P) (BT.node (o87 P) (BT.node (o153 P) BT.nil BT.nil) BT.nil) (BT.node (o119 P) (BT.node (o187 P) BT.nil BT.nil) BT.nil)))))) (BT.node (o4 P) (BT.node (boot_o_4 P) (BT.node (boot_o_8 P) (BT.node (o8 P) (BT.node (o24 P) (BT.node (o58 P) (BT.node (o122 P) BT.nil BT.nil) (BT.node (o190 P) BT.nil BT.nil)) (BT.node (o90 P) (BT.node (o156 P) BT.nil BT.nil) BT.nil)) (BT.node (o40 P) (BT.node (o74 P) (BT.node (o138 P) BT.nil BT.nil) BT.nil) (BT.node (o106 P) (BT.node (o172 P) BT.nil BT.nil) BT.nil))) (BT.node (o16 P) (BT.node (o32 P) (BT.node (o66 P) (BT.node (o130 P) BT.nil BT.nil) (BT.node (o198 P) BT.nil BT.nil)) (BT.node (o98 P) (BT.node (o164 P) BT.nil BT.nil) BT.nil)) (BT.node (o48 P) (BT.node (o82 P) (BT.node (o146 P) BT.nil BT.nil) BT.nil) (BT.node (o114 P) (BT.node (o182 P) BT.nil BT.nil) BT.nil)))) (BT.node (o180 P) (BT.node (o12 P) (BT.node (o28 P) (BT.node (o62 P) (BT.node (o126 P) BT.nil BT.nil) (BT.node (o194 P) BT.nil BT.nil)) (BT.node (o94 P) (BT.node (o160 P) BT.nil BT.nil) BT.nil)) (BT.node (o44 P) (BT.node (o78 P) (BT.node (o142 P) BT.nil BT.nil) BT.nil) (BT.node (o110 P) (BT.node (o176 P) BT.nil BT.nil) BT.nil))) (BT.node (o20 P) (BT.node (o36 P) (BT.node (o70 P) (BT.node (o134 P) BT.nil BT.nil) (BT.node (o202 P) BT.nil BT.nil)) (BT.node (o102 P) (BT.node (o168 P) BT.nil BT.nil) BT.nil)) (BT.node (o54 P) (BT.node (o86 P) (BT.node (o152 P) BT.nil BT.nil) BT.nil) (BT.node (o118 P) (BT.node (o186 P) BT.nil BT.nil) BT.nil))))) (BT.node (boot_o_6 P) (BT.node (boot_o_10 P) (BT.node (o10 P) (BT.node (o26 P) (BT.node (o60 P) (BT.node (o124 P) BT.nil BT.nil) (BT.node (o192 P) BT.nil BT.nil)) (BT.node (o92 P) (BT.node (o158 P) BT.nil BT.nil) BT.nil)) (BT.node (o42 P) (BT.node (o76 P) (BT.node (o140 P) BT.nil BT.nil) BT.nil) (BT.node (o108 P) (BT.node (o174 P) BT.nil BT.nil) BT.nil))) (BT.node (o18 P) (BT.node (o34 P) (BT.node (o68 P) (BT.node (o132 P) BT.nil BT.nil) (BT.node (o200 P) BT.nil BT.nil)) (BT.node (o100 P) (BT.node (o166 P) BT.nil BT.nil) BT.nil)) (BT.node (o52 P) (BT.node (o84 P) (BT.node (o148 P) BT.nil BT.nil) BT.nil) (BT.node (o116 P) (BT.node (o184 P) BT.nil BT.nil) BT.nil)))) (BT.node (o3 P) (BT.node (o14 P) (BT.node (o30 P) (BT.node (o64 P) (BT.node (o128 P) BT.nil BT.nil) (BT.node (o196 P) BT.nil BT.nil)) (BT.node (o96 P) (BT.node (o162 P) BT.nil BT.nil) BT.nil)) (BT.node (o46 P) (BT.node (o80 P) (BT.node (o144 P) BT.nil BT.nil) BT.nil) (BT.node (o112 P) (BT.node (o178 P) BT.nil BT.nil) BT.nil))) (BT.node (o22 P) (BT.node (o38 P) (BT.node (o72 P) (BT.node (o136 P) BT.nil BT.nil) BT.nil) (BT.node (o104 P) (BT.node (o170 P) BT.nil BT.nil) BT.nil)) (BT.node (o56 P) (BT.node (o88 P) (BT.node (o154 P) BT.nil BT.nil) BT.nil) (BT.node (o120 P) (BT.node (o188 P) BT.nil BT.nil) BT.nil)))))))
noncomputable def o203 (P : Params) : Obj := (Obj.mk (.type "dict") none (Data.dict #[(DictEntry.mk (keyHash P "__name__") (.str "__name__" 165) (.str "paperhold.objects" 371)), (DictEntry.mk (keyHash P "__doc__") (.str "__doc__" 166) Value.none), (DictEntry.mk (keyHash P "__package__") (.str "__package__" 167) Value.none), (DictEntry.mk (keyHash P "__loader__") (.str "__loader__" 168) (.builtin "__main__.__loader__#opaque")), (DictEntry.mk (keyHash P "__spec__") (.str "__spec__" 169) Value.none), (DictEntry.mk (keyHash P "__annotations__") (.str "__annotations__" 170) (.ref 6)), (DictEntry.mk (keyHash P "__builtins__") (.str "__builtins__" 171) (.ref 4)), (DictEntry.mk (keyHash P "__file__") (.str "__file__" 173) (.str "/claim/cut.py" 172)), (DictEntry.mk (keyHash P "__cached__") (.str "__cached__" 174) Value.none), (DictEntry.mk (keyHash P "_wall") (.str "_wall" 193) (.ref 21)), (DictEntry.mk (keyHash P "is_there") (.str "is_there" 205) (.ref 28)), (DictEntry.mk (keyHash P "PaperError") (.str "PaperError" 247) (.ref 53)), (DictEntry.mk (keyHash P "Decimal") (.str "Decimal" 363) (.ref 150)), (DictEntry.mk (keyHash P "sign_text") (.str "sign_text" 370) (.ref 161)), (DictEntry.mk (keyHash P "MOST_HOPS") (.str "MOST_HOPS" 374) (.int 30 373)), (DictEntry.mk (keyHash P "Name") (.str "Name" 403) (.ref 178)), (DictEntry.mk (keyHash P "String") (.str "String" 434) (.ref 200)), (DictEntry.mk (keyHash P "Stream") (.str "Stream" 465) (.ref 221))] 18) #[])
noncomputable def o204 (P : Params) : Obj := (Obj.mk Value.none none (Data.fields #[(.int 1 0), (.int 0 0), (.ref 20), (.int 5 0), (.int 0 0), (.ref 27), (.int 9 0), (.int 0 0), (.ref 34), (.int 19 0), (.int 0 0), (.ref 62), (.int 64 0), (.int 0 0), (.ref 160), (.int 68 0), (.int 0 0), (.ref 167), (.int 72 0), (.int 0 0), (.ref 188), (.int 77 0), (.int 0 0), (.ref 210)]) #[])
noncomputable def o205 (P : Params) : Obj := (Obj.mk (.type "tuple") none (Data.seq #[] 0) #[])
noncomputable def o206 (P : Params) : Obj := (Obj.mk (.type "builtin_function_or_method") none (Data.fields #[(.builtin "type.__prepare__"), (.type "type")]) #[])
noncomputable def o207 (P : Params) : Obj := (Obj.mk (.type "dict") none (Data.dict #[(DictEntry.mk (keyHash P "__module__") (.str "__module__" 442) (.str "paperhold.objects" 371)), (DictEntry.mk (keyHash P "__qualname__") (.str "__qualname__" 444) (.str "Stream" 443)), (DictEntry.mk (keyHash P "__firstlineno__") (.str "__firstlineno__" 446) (.int 77 445)), (DictEntry.mk (keyHash P "__init__") (.str "__init__" 455) (.ref 218)), (DictEntry.mk (keyHash P "__static_attributes__") (.str "__static_attributes__" 458) (.ref 219))] 5) #[])
noncomputable def o208 (P : Params) : Obj := (Obj.mk (.type "tuple") none (Data.seq #[] 0) #[])
noncomputable def o209 (P : Params) : Obj := (Obj.mk Value.none none (Data.fields #[(.int 79 0), (.int 4 0), (.ref 217)]) #[])
noncomputable def o210 (P : Params) : Obj := (Obj.mk (.type "code") none (Data.fields #[(.str "Stream" 437), (.str "Stream" 438), (.str "/claim/cut.py" 439), (.int 77 0), (.int 0 0), (.int 0 0), (.int 0 0), (.int 0 0), (.ref 208), (.bool Bool.false), (.int 181 0), (.ref 209), Value.none, Value.none, Value.none, Value.none, (.int 440 0), (.int 77 0), (.str "/claim/cut.py" 441)]) #[])
noncomputable def o211 (P : Params) : Obj := (Obj.mk (.type "frame") none Data.plain #[(some (.ref 210)), (some (.ref 3)), (some (.ref 207)), none, (some (.str "paperhold.objects" 371)), none, (some (.ref 0))])
noncomputable def o212 (P : Params) : Obj := (Obj.mk (.type "tuple") none (Data.seq #[] 0) #[])
noncomputable def o213 (P : Params) : Obj := (Obj.mk Value.none none (Data.fields #[]) #[])
noncomputable def o214 (P : Params) : Obj := (Obj.mk (.type "tuple") none (Data.seq #[(.str "self" 450), (.str "head" 451), (.str "octets" 452)] 0) #[])
noncomputable def o215 (P : Params) : Obj := (Obj.mk (.type "tuple") none (Data.seq #[] 0) #[])
noncomputable def o216 (P : Params) : Obj := (Obj.mk Value.none none (Data.func (FuncData.mk "__init__" "Stream.__init__" (md 12 0).1 (FuncBody.stmts (md 12 0).2.1) (md 12 0).2.2 0 [] Value.none Value.none Value.none Value.none none Value.none Value.none 0)) #[])
noncomputable def o217 (P : Params) : Obj := (Obj.mk (.type "code") none (Data.fields #[(.str "__init__" 447), (.str "Stream.__init__" 448), (.str "/claim/cut.py" 449), (.int 79 0), (.int 3 0), (.int 0 0), (.int 0 0), (.int 3 0), (.ref 212), (.bool Bool.true), (.int 181 0), (.ref 213), Value.none, (.ref 214), (.ref 215), (.ref 216), (.int 453 0), (.int 79 0), (.str "/claim/cut.py" 454)]) #[])
noncomputable def o218 (P : Params) : Obj := (Obj.mk (.type "function") none (Data.func (FuncData.mk "__init__" "Stream.__init__" (md 12 0).1 (FuncBody.stmts (md 12 0).2.1) (md 12 0).2.2 3 [] Value.none Value.none Value.none (.str "paperhold.objects" 371) none (.ref 217) Value.none 0)) #[])
noncomputable def o219 (P : Params) : Obj := (Obj.mk (.type "tuple") none (Data.seq #[(.str "head" 456), (.str "octets" 457)] 0) #[])
noncomputable def o220 (P : Params) : Obj := (Obj.mk (.type "dict") none (Data.dict #[(DictEntry.mk (keyHash P "__module__") (.str "__module__" 442) (.str "paperhold.objects" 371)), (DictEntry.mk (keyHash P "__firstlineno__") (.str "__firstlineno__" 446) (.int 77 445)), (DictEntry.mk (keyHash P "__init__") (.str "__init__" 455) (.ref 218)), (DictEntry.mk (keyHash P "__static_attributes__") (.str "__static_attributes__" 458) (.ref 219)), (DictEntry.mk (keyHash P "__dict__") (.str "__dict__" 460) (.ref 222)), (DictEntry.mk (keyHash P "__weakref__") (.str "__weakref__" 462) (.ref 223)), (DictEntry.mk (keyHash P "__doc__") (.str "__doc__" 463) Value.none)] 4) #[])
noncomputable def o221 (P : Params) : Obj := (Obj.mk (.type "type") none (Data.cls (ClassData.mk "Stream" [(.type "object")] [(.ref 221), (.type "object")] 220 "Stream" Bool.true [] [] Bool.false none Bool.false)) #[none, none, (some (.str "Stream" 435)), (some (.str "Stream" 443)), (some (.builtin "object.__new__")), (some (.bool Bool.true))])
noncomputable def o222 (P : Params) : Obj := (Obj.mk (.type "getset_descriptor") none (Data.fields #[(.str "__dict__" 459), (.ref 221), (.builtin "function.__dict__"), (.builtin "function.__dict__#set")]) #[])
noncomputable def o223 (P : Params) : Obj := (Obj.mk (.type "getset_descriptor") none (Data.fields #[(.str "__weakref__" 461), (.ref 221), (.builtin "ExceptionGroup.__weakref__"), Value.none]) #[])
noncomputable def o224 (P : Params) : Obj := (Obj.mk (.type "super") none (Data.fields #[(.ref 221), (.ref 221), (.ref 221)]) #[])
noncomputable def o225 (P : Params) : Obj := (Obj.mk (.type "builtin_function_or_method") none (Data.fields #[(.builtin "object.__init_subclass__"), (.ref 221)]) #[])
noncomputable def tr_g4 (P : Params) : BT := (BT.node (boot_o_0 P) (BT.node (boot_o_1 P) (BT.node (o203 P) (BT.node (boot_o_7 P) (BT.node (o7 P) (BT.node (o23 P) (BT.node (o57 P) (BT.node (o121 P) BT.nil BT.nil) (BT.node (o189 P) BT.nil BT.nil)) (BT.node (o89 P) (BT.node (o155 P) BT.nil BT.nil) (BT.node (o223 P) BT.nil BT.nil))) (BT.node (o39 P) (BT.node (o73 P) (BT.node (o137 P) BT.nil BT.nil) (BT.node (o207 P) BT.nil BT.nil)) (BT.node (o105 P) (BT.node (o171 P) BT.nil BT.nil) BT.nil))) (BT.node (o15 P) (BT.node (o31 P) (BT.node (o65 P) (BT.node (o129 P) BT.nil BT.nil) (BT.node (o197 P) BT.nil BT.nil)) (BT.node (o97 P) (BT.node (o163 P) BT.nil BT.nil) BT.nil)) (BT.node (o47 P) (BT.node (o81 P) (BT.node (o145 P) BT.nil BT.nil) (BT.node (o215 P) BT.nil BT.nil)) (BT.node (o113 P) (BT.node (o181 P) BT.nil BT.nil) BT.nil)))) (BT.node (o0 P) (BT.node (o11 P) (BT.node (o27 P) (BT.node (o61 P) (BT.node (o125 P) BT.nil BT.nil) (BT.node (o193 P) BT.nil BT.nil)) (BT.node (o93 P) (BT.node (o159 P) BT.nil BT.nil) BT.nil)) (BT.node (o43 P) (BT.node (o77 P) (BT.node (o141 P) BT.nil BT.nil) (BT.node (o211 P) BT.nil BT.nil)) (BT.node (o109 P) (BT.node (o175 P) BT.nil BT.nil) BT.nil))) (BT.node (o19 P) (BT.node (o35 P) (BT.node (o69 P) (BT.node (o133 P) BT.nil BT.nil) (BT.node (o201 P) BT.nil BT.nil)) (BT.node (o101 P) (BT.node (o167 P) BT.nil BT.nil) BT.nil)) (BT.node (o53 P) (BT.node (o85 P) (BT.node (o151 P) BT.nil BT.nil) (BT.node (o219 P) BT.nil BT.nil)) (BT.node (o117 P) (BT.node (o185 P) BT.nil BT.nil) BT.nil))))) (BT.node (boot_o_5 P) (BT.node (boot_o_9 P) (BT.node (o9 P) (BT.node (o25 P) (BT.node (o59 P) (BT.node (o123 P) BT.nil BT.nil) (BT.node (o191 P) BT.nil BT.nil)) (BT.node (o91 P) (BT.node (o157 P) BT.nil BT.nil) (BT.node (o225 P) BT.nil BT.nil))) (BT.node (o41 P) (BT.node (o75 P) (BT.node (o139 P) BT.nil BT.nil) (BT.node (o209 P) BT.nil BT.nil)) (BT.node (o107 P) (BT.node (o173 P) BT.nil BT.nil) BT.nil))) (BT.node (o17 P) (BT.node (o33 P) (BT.node (o67 P) (BT.node (o131 P) BT.nil BT.nil) (BT.node (o199 P) BT.nil BT.nil)) (BT.node (o99 P) (BT.node (o165 P) BT.nil BT.nil) BT.nil)) (BT.node (o51 P) (BT.node (o83 P) (BT.node (o147 P) BT.nil BT.nil) (BT.node (o217 P) BT.nil BT.nil)) (BT.node (o115 P) (BT.node (o183 P) BT.nil BT.nil) BT.nil)))) (BT.node (o2 P) (BT.node (o13 P) (BT.node (o29 P) (BT.node (o63 P) (BT.node (o127 P) BT.nil BT.nil) (BT.node (o195 P) BT.nil BT.nil)) (BT.node (o95 P) (BT.node (o161 P) BT.nil BT.nil) BT.nil)) (BT.node (o45 P) (BT.node (o79 P) (BT.node (o143 P) BT.nil BT.nil) (BT.node (o213 P) BT.nil BT.nil)) (BT.node (o111 P) (BT.node (o177 P) BT.nil BT.nil) BT.nil))) (BT.node (o21 P) (BT.node (o37 P) (BT.node (o71 P) (BT.node (o135 P) BT.nil BT.nil) (BT.node (o205 P) BT.nil BT.nil)) (BT.node (o103 P) (BT.node (o169 P) BT.nil BT.nil) BT.nil)) (BT.node (o55 P) (BT.node (o87 P) (BT.node (o153 P) BT.nil BT.nil) (BT.node (o221 P) BT.nil BT.nil)) (BT.node (o119 P) (BT.node (o187 P) BT.nil BT.nil) BT.nil)))))) (BT.node (o4 P) (BT.node (boot_o_4 P) (BT.node (boot_o_8 P) (BT.node (o8 P) (BT.node (o24 P) (BT.node (o58 P) (BT.node (o122 P) BT.nil BT.nil) (BT.node (o190 P) BT.nil BT.nil)) (BT.node (o90 P) (BT.node (o156 P) BT.nil BT.nil) (BT.node (o224 P) BT.nil BT.nil))) (BT.node (o40 P) (BT.node (o74 P) (BT.node (o138 P) BT.nil BT.nil) (BT.node (o208 P) BT.nil BT.nil)) (BT.node (o106 P) (BT.node (o172 P) BT.nil BT.nil) BT.nil))) (BT.node (o16 P) (BT.node (o32 P) (BT.node (o66 P) (BT.node (o130 P) BT.nil BT.nil) (BT.node (o198 P) BT.nil BT.nil)) (BT.node (o98 P) (BT.node (o164 P) BT.nil BT.nil) BT.nil)) (BT.node (o48 P) (BT.node (o82 P) (BT.node (o146 P) BT.nil BT.nil) (BT.node (o216 P) BT.nil BT.nil)) (BT.node (o114 P) (BT.node (o182 P) BT.nil BT.nil) BT.nil)))) (BT.node (o204 P) (BT.node (o12 P) (BT.node (o28 P) (BT.node (o62 P) (BT.node (o126 P) BT.nil BT.nil) (BT.node (o194 P) BT.nil BT.nil)) (BT.node (o94 P) (BT.node (o160 P) BT.nil BT.nil) BT.nil)) (BT.node (o44 P) (BT.node (o78 P) (BT.node (o142 P) BT.nil BT.nil) (BT.node (o212 P) BT.nil BT.nil)) (BT.node (o110 P) (BT.node (o176 P) BT.nil BT.nil) BT.nil))) (BT.node (o20 P) (BT.node (o36 P) (BT.node (o70 P) (BT.node (o134 P) BT.nil BT.nil) (BT.node (o202 P) BT.nil BT.nil)) (BT.node (o102 P) (BT.node (o168 P) BT.nil BT.nil) BT.nil)) (BT.node (o54 P) (BT.node (o86 P) (BT.node (o152 P) BT.nil BT.nil) (BT.node (o220 P) BT.nil BT.nil)) (BT.node (o118 P) (BT.node (o186 P) BT.nil BT.nil) BT.nil))))) (BT.node (boot_o_6 P) (BT.node (boot_o_10 P) (BT.node (o10 P) (BT.node (o26 P) (BT.node (o60 P) (BT.node (o124 P) BT.nil BT.nil) (BT.node (o192 P) BT.nil BT.nil)) (BT.node (o92 P) (BT.node (o158 P) BT.nil BT.nil) BT.nil)) (BT.node (o42 P) (BT.node (o76 P) (BT.node (o140 P) BT.nil BT.nil) (BT.node (o210 P) BT.nil BT.nil)) (BT.node (o108 P) (BT.node (o174 P) BT.nil BT.nil) BT.nil))) (BT.node (o18 P) (BT.node (o34 P) (BT.node (o68 P) (BT.node (o132 P) BT.nil BT.nil) (BT.node (o200 P) BT.nil BT.nil)) (BT.node (o100 P) (BT.node (o166 P) BT.nil BT.nil) BT.nil)) (BT.node (o52 P) (BT.node (o84 P) (BT.node (o148 P) BT.nil BT.nil) (BT.node (o218 P) BT.nil BT.nil)) (BT.node (o116 P) (BT.node (o184 P) BT.nil BT.nil) BT.nil)))) (BT.node (o3 P) (BT.node (o14 P) (BT.node (o30 P) (BT.node (o64 P) (BT.node (o128 P) BT.nil BT.nil) (BT.node (o196 P) BT.nil BT.nil)) (BT.node (o96 P) (BT.node (o162 P) BT.nil BT.nil) BT.nil)) (BT.node (o46 P) (BT.node (o80 P) (BT.node (o144 P) BT.nil BT.nil) (BT.node (o214 P) BT.nil BT.nil)) (BT.node (o112 P) (BT.node (o178 P) BT.nil BT.nil) BT.nil))) (BT.node (o22 P) (BT.node (o38 P) (BT.node (o72 P) (BT.node (o136 P) BT.nil BT.nil) (BT.node (o206 P) BT.nil BT.nil)) (BT.node (o104 P) (BT.node (o170 P) BT.nil BT.nil) BT.nil)) (BT.node (o56 P) (BT.node (o88 P) (BT.node (o154 P) BT.nil BT.nil) (BT.node (o222 P) BT.nil BT.nil)) (BT.node (o120 P) (BT.node (o188 P) BT.nil BT.nil) BT.nil)))))))
noncomputable def o226 (P : Params) : Obj := (Obj.mk (.type "dict") none (Data.dict #[(DictEntry.mk (keyHash P "__name__") (.str "__name__" 165) (.str "paperhold.objects" 371)), (DictEntry.mk (keyHash P "__doc__") (.str "__doc__" 166) Value.none), (DictEntry.mk (keyHash P "__package__") (.str "__package__" 167) Value.none), (DictEntry.mk (keyHash P "__loader__") (.str "__loader__" 168) (.builtin "__main__.__loader__#opaque")), (DictEntry.mk (keyHash P "__spec__") (.str "__spec__" 169) Value.none), (DictEntry.mk (keyHash P "__annotations__") (.str "__annotations__" 170) (.ref 6)), (DictEntry.mk (keyHash P "__builtins__") (.str "__builtins__" 171) (.ref 4)), (DictEntry.mk (keyHash P "__file__") (.str "__file__" 173) (.str "/claim/cut.py" 172)), (DictEntry.mk (keyHash P "__cached__") (.str "__cached__" 174) Value.none), (DictEntry.mk (keyHash P "_wall") (.str "_wall" 193) (.ref 21)), (DictEntry.mk (keyHash P "is_there") (.str "is_there" 205) (.ref 28)), (DictEntry.mk (keyHash P "PaperError") (.str "PaperError" 247) (.ref 53)), (DictEntry.mk (keyHash P "Decimal") (.str "Decimal" 363) (.ref 150)), (DictEntry.mk (keyHash P "sign_text") (.str "sign_text" 370) (.ref 161)), (DictEntry.mk (keyHash P "MOST_HOPS") (.str "MOST_HOPS" 374) (.int 30 373)), (DictEntry.mk (keyHash P "Name") (.str "Name" 403) (.ref 178)), (DictEntry.mk (keyHash P "String") (.str "String" 434) (.ref 200)), (DictEntry.mk (keyHash P "Stream") (.str "Stream" 465) (.ref 221)), (DictEntry.mk (keyHash P "Reference") (.str "Reference" 503) (.ref 249)), (DictEntry.mk (keyHash P "kind_of") (.str "kind_of" 510) (.ref 260)), (DictEntry.mk (keyHash P "told_plain") (.str "told_plain" 518) (.ref 267)), (DictEntry.mk (keyHash P "told") (.str "told" 524) (.ref 272)), (DictEntry.mk (keyHash P "told_objects") (.str "told_objects" 525) (.ref 272)), (DictEntry.mk (keyHash P "parts_of") (.str "parts_of" 531) (.ref 277))] 24) #[])
noncomputable def o227 (P : Params) : Obj := (Obj.mk Value.none none (Data.fields #[(.int 1 0), (.int 0 0), (.ref 20), (.int 5 0), (.int 0 0), (.ref 27), (.int 9 0), (.int 0 0), (.ref 34), (.int 19 0), (.int 0 0), (.ref 62), (.int 64 0), (.int 0 0), (.ref 160), (.int 68 0), (.int 0 0), (.ref 167), (.int 72 0), (.int 0 0), (.ref 188), (.int 77 0), (.int 0 0), (.ref 210), (.int 82 0), (.int 0 0), (.ref 231), (.int 90 0), (.int 0 0), (.ref 259), (.int 112 0), (.int 0 0), (.ref 266), (.int 126 0), (.int 0 0), (.ref 271), (.int 136 0), (.int 0 0), (.ref 276)]) #[])
noncomputable def o228 (P : Params) : Obj := (Obj.mk (.type "tuple") none (Data.seq #[] 0) #[])
noncomputable def o229 (P : Params) : Obj := (Obj.mk (.type "builtin_function_or_method") none (Data.fields #[(.builtin "type.__prepare__"), (.type "type")]) #[])
noncomputable def o230 (P : Params) : Obj := (Obj.mk (.type "dict") none (Data.dict #[(DictEntry.mk (keyHash P "__module__") (.str "__module__" 473) (.str "paperhold.objects" 371)), (DictEntry.mk (keyHash P "__qualname__") (.str "__qualname__" 475) (.str "Reference" 474)), (DictEntry.mk (keyHash P "__firstlineno__") (.str "__firstlineno__" 477) (.int 82 476)), (DictEntry.mk (keyHash P "__init__") (.str "__init__" 486) (.ref 239)), (DictEntry.mk (keyHash P "pair") (.str "pair" 493) (.ref 246)), (DictEntry.mk (keyHash P "__static_attributes__") (.str "__static_attributes__" 496) (.ref 247))] 6) #[])
noncomputable def o231 (P : Params) : Obj := (Obj.mk (.type "tuple") none (Data.seq #[] 0) #[])
noncomputable def o232 (P : Params) : Obj := (Obj.mk Value.none none (Data.fields #[(.int 84 0), (.int 4 0), (.ref 238), (.int 88 0), (.int 4 0), (.ref 245)]) #[])
noncomputable def o233 (P : Params) : Obj := (Obj.mk (.type "code") none (Data.fields #[(.str "Reference" 468), (.str "Reference" 469), (.str "/claim/cut.py" 470), (.int 82 0), (.int 0 0), (.int 0 0), (.int 0 0), (.int 0 0), (.ref 229), (.bool Bool.false), (.int 181 0), (.ref 230), Value.none, Value.none, Value.none, Value.none, (.int 471 0), (.int 82 0), (.str "/claim/cut.py" 472)]) #[])
noncomputable def o234 (P : Params) : Obj := (Obj.mk (.type "frame") none Data.plain #[(some (.ref 231)), (some (.ref 3)), (some (.ref 228)), none, (some (.str "paperhold.objects" 371)), none, (some (.ref 0))])
noncomputable def o235 (P : Params) : Obj := (Obj.mk (.type "tuple") none (Data.seq #[] 0) #[])
noncomputable def o236 (P : Params) : Obj := (Obj.mk Value.none none (Data.fields #[]) #[])
noncomputable def o237 (P : Params) : Obj := (Obj.mk (.type "tuple") none (Data.seq #[(.str "self" 481), (.str "number" 482), (.str "generation" 483)] 0) #[])
noncomputable def o238 (P : Params) : Obj := (Obj.mk (.type "tuple") none (Data.seq #[] 0) #[])
noncomputable def o239 (P : Params) : Obj := (Obj.mk Value.none none (Data.func (FuncData.mk "__init__" "Reference.__init__" (md 13 0).1 (FuncBody.stmts (md 13 0).2.1) (md 13 0).2.2 0 [] Value.none Value.none Value.none Value.none none Value.none Value.none 0)) #[])
noncomputable def o240 (P : Params) : Obj := (Obj.mk (.type "code") none (Data.fields #[(.str "__init__" 478), (.str "Reference.__init__" 479), (.str "/claim/cut.py" 480), (.int 84 0), (.int 3 0), (.int 0 0), (.int 0 0), (.int 3 0), (.ref 233), (.bool Bool.true), (.int 181 0), (.ref 234), Value.none, (.ref 235), (.ref 236), (.ref 237), (.int 484 0), (.int 84 0), (.str "/claim/cut.py" 485)]) #[])
noncomputable def o241 (P : Params) : Obj := (Obj.mk (.type "function") none (Data.func (FuncData.mk "__init__" "Reference.__init__" (md 13 0).1 (FuncBody.stmts (md 13 0).2.1) (md 13 0).2.2 3 [] Value.none Value.none Value.none (.str "paperhold.objects" 371) none (.ref 238) Value.none 0)) #[])
noncomputable def o242 (P : Params) : Obj := (Obj.mk (.type "tuple") none (Data.seq #[] 0) #[])
noncomputable def o243 (P : Params) : Obj := (Obj.mk Value.none none (Data.fields #[]) #[])
noncomputable def o244 (P : Params) : Obj := (Obj.mk (.type "tuple") none (Data.seq #[(.str "self" 490)] 0) #[])
noncomputable def o245 (P : Params) : Obj := (Obj.mk (.type "tuple") none (Data.seq #[] 0) #[])
noncomputable def o246 (P : Params) : Obj := (Obj.mk Value.none none (Data.func (FuncData.mk "pair" "Reference.pair" (md 13 1).1 (FuncBody.stmts (md 13 1).2.1) (md 13 1).2.2 0 [] Value.none Value.none Value.none Value.none none Value.none Value.none 0)) #[])
noncomputable def o247 (P : Params) : Obj := (Obj.mk (.type "code") none (Data.fields #[(.str "pair" 487), (.str "Reference.pair" 488), (.str "/claim/cut.py" 489), (.int 88 0), (.int 1 0), (.int 0 0), (.int 0 0), (.int 3 0), (.ref 240), (.bool Bool.true), (.int 181 0), (.ref 241), Value.none, (.ref 242), (.ref 243), (.ref 244), (.int 491 0), (.int 88 0), (.str "/claim/cut.py" 492)]) #[])
noncomputable def o248 (P : Params) : Obj := (Obj.mk (.type "function") none (Data.func (FuncData.mk "pair" "Reference.pair" (md 13 1).1 (FuncBody.stmts (md 13 1).2.1) (md 13 1).2.2 3 [] Value.none Value.none Value.none (.str "paperhold.objects" 371) none (.ref 245) Value.none 0)) #[])
noncomputable def o249 (P : Params) : Obj := (Obj.mk (.type "tuple") none (Data.seq #[(.str "generation" 494), (.str "number" 495)] 0) #[])
noncomputable def o250 (P : Params) : Obj := (Obj.mk (.type "dict") none (Data.dict #[(DictEntry.mk (keyHash P "__module__") (.str "__module__" 473) (.str "paperhold.objects" 371)), (DictEntry.mk (keyHash P "__firstlineno__") (.str "__firstlineno__" 477) (.int 82 476)), (DictEntry.mk (keyHash P "__init__") (.str "__init__" 486) (.ref 239)), (DictEntry.mk (keyHash P "pair") (.str "pair" 493) (.ref 246)), (DictEntry.mk (keyHash P "__static_attributes__") (.str "__static_attributes__" 496) (.ref 247)), (DictEntry.mk (keyHash P "__dict__") (.str "__dict__" 498) (.ref 250)), (DictEntry.mk (keyHash P "__weakref__") (.str "__weakref__" 500) (.ref 251)), (DictEntry.mk (keyHash P "__doc__") (.str "__doc__" 501) Value.none)] 4) #[])
noncomputable def o251 (P : Params) : Obj := (Obj.mk (.type "type") none (Data.cls (ClassData.mk "Reference" [(.type "object")] [(.ref 249), (.type "object")] 248 "Reference" Bool.true [] [] Bool.false none Bool.false)) #[none, none, (some (.str "Reference" 466)), (some (.str "Reference" 474)), (some (.builtin "object.__new__")), (some (.bool Bool.true))])
noncomputable def o252 (P : Params) : Obj := (Obj.mk (.type "getset_descriptor") none (Data.fields #[(.str "__dict__" 497), (.ref 249), (.builtin "function.__dict__"), (.builtin "function.__dict__#set")]) #[])
noncomputable def o253 (P : Params) : Obj := (Obj.mk (.type "getset_descriptor") none (Data.fields #[(.str "__weakref__" 499), (.ref 249), (.builtin "ExceptionGroup.__weakref__"), Value.none]) #[])
noncomputable def o254 (P : Params) : Obj := (Obj.mk (.type "super") none (Data.fields #[(.ref 249), (.ref 249), (.ref 249)]) #[])
noncomputable def o255 (P : Params) : Obj := (Obj.mk (.type "builtin_function_or_method") none (Data.fields #[(.builtin "object.__init_subclass__"), (.ref 249)]) #[])
noncomputable def o256 (P : Params) : Obj := (Obj.mk (.type "tuple") none (Data.seq #[] 0) #[])
noncomputable def o257 (P : Params) : Obj := (Obj.mk Value.none none (Data.fields #[]) #[])
noncomputable def o258 (P : Params) : Obj := (Obj.mk (.type "tuple") none (Data.seq #[(.str "value" 507)] 0) #[])
noncomputable def o259 (P : Params) : Obj := (Obj.mk (.type "tuple") none (Data.seq #[] 0) #[])
noncomputable def o260 (P : Params) : Obj := (Obj.mk Value.none none (Data.func (FuncData.mk "kind_of" "kind_of" (fd 14).1 (FuncBody.stmts (fd 14).2.1) (fd 14).2.2 0 [] Value.none Value.none Value.none Value.none none Value.none Value.none 0)) #[])
noncomputable def o261 (P : Params) : Obj := (Obj.mk (.type "code") none (Data.fields #[(.str "kind_of" 504), (.str "kind_of" 505), (.str "/claim/cut.py" 506), (.int 90 0), (.int 1 0), (.int 0 0), (.int 0 0), (.int 3 0), (.ref 254), (.bool Bool.true), (.int 181 0), (.ref 255), Value.none, (.ref 256), (.ref 257), (.ref 258), (.int 508 0), (.int 90 0), (.str "/claim/cut.py" 509)]) #[])
noncomputable def o262 (P : Params) : Obj := (Obj.mk (.type "function") none (Data.func (FuncData.mk "kind_of" "kind_of" (fd 14).1 (FuncBody.stmts (fd 14).2.1) (fd 14).2.2 3 [] Value.none Value.none Value.none (.str "paperhold.objects" 371) none (.ref 259) Value.none 0)) #[])
noncomputable def o263 (P : Params) : Obj := (Obj.mk (.type "tuple") none (Data.seq #[] 0) #[])
noncomputable def o264 (P : Params) : Obj := (Obj.mk Value.none none (Data.fields #[]) #[])
noncomputable def o265 (P : Params) : Obj := (Obj.mk (.type "tuple") none (Data.seq #[(.str "kind" 514), (.str "value" 515)] 0) #[])
noncomputable def o266 (P : Params) : Obj := (Obj.mk (.type "tuple") none (Data.seq #[] 0) #[])
noncomputable def o267 (P : Params) : Obj := (Obj.mk Value.none none (Data.func (FuncData.mk "told_plain" "told_plain" (fd 15).1 (FuncBody.stmts (fd 15).2.1) (fd 15).2.2 0 [] Value.none Value.none Value.none Value.none none Value.none Value.none 0)) #[])
noncomputable def o268 (P : Params) : Obj := (Obj.mk (.type "code") none (Data.fields #[(.str "told_plain" 511), (.str "told_plain" 512), (.str "/claim/cut.py" 513), (.int 112 0), (.int 2 0), (.int 0 0), (.int 0 0), (.int 3 0), (.ref 261), (.bool Bool.true), (.int 181 0), (.ref 262), Value.none, (.ref 263), (.ref 264), (.ref 265), (.int 516 0), (.int 112 0), (.str "/claim/cut.py" 517)]) #[])
noncomputable def o269 (P : Params) : Obj := (Obj.mk (.type "function") none (Data.func (FuncData.mk "told_plain" "told_plain" (fd 15).1 (FuncBody.stmts (fd 15).2.1) (fd 15).2.2 3 [] Value.none Value.none Value.none (.str "paperhold.objects" 371) none (.ref 266) Value.none 0)) #[])
noncomputable def o270 (P : Params) : Obj := (Obj.mk (.type "tuple") none (Data.seq #[] 0) #[])
noncomputable def o271 (P : Params) : Obj := (Obj.mk Value.none none (Data.fields #[]) #[])
noncomputable def o272 (P : Params) : Obj := (Obj.mk Value.none none (Data.func (FuncData.mk "told" "told" (fd 16).1 (FuncBody.stmts (fd 16).2.1) (fd 16).2.2 0 [] Value.none Value.none Value.none Value.none none Value.none Value.none 0)) #[])
noncomputable def o273 (P : Params) : Obj := (Obj.mk (.type "code") none (Data.fields #[(.str "told" 519), (.str "told" 520), (.str "/claim/cut.py" 521), (.int 126 0), (.int 1 0), (.int 0 0), (.int 0 0), (.int 3 0), (.ref 268), (.bool Bool.true), (.int 181 0), (.ref 269), Value.none, Value.none, Value.none, (.ref 270), (.int 522 0), (.int 126 0), (.str "/claim/cut.py" 523)]) #[])
noncomputable def o274 (P : Params) : Obj := (Obj.mk (.type "function") none (Data.func (FuncData.mk "told" "told" (fd 16).1 (FuncBody.stmts (fd 16).2.1) (fd 16).2.2 3 [] Value.none Value.none Value.none (.str "paperhold.objects" 371) none (.ref 271) Value.none 0)) #[])
noncomputable def o275 (P : Params) : Obj := (Obj.mk (.type "tuple") none (Data.seq #[] 0) #[])
noncomputable def o276 (P : Params) : Obj := (Obj.mk Value.none none (Data.fields #[]) #[])
noncomputable def o277 (P : Params) : Obj := (Obj.mk Value.none none (Data.func (FuncData.mk "parts_of" "parts_of" (fd 18).1 (FuncBody.stmts (fd 18).2.1) (fd 18).2.2 0 [] Value.none Value.none Value.none Value.none none Value.none Value.none 0)) #[])
noncomputable def o278 (P : Params) : Obj := (Obj.mk (.type "code") none (Data.fields #[(.str "parts_of" 526), (.str "parts_of" 527), (.str "/claim/cut.py" 528), (.int 136 0), (.int 1 0), (.int 0 0), (.int 0 0), (.int 3 0), (.ref 273), (.bool Bool.true), (.int 181 0), (.ref 274), Value.none, Value.none, Value.none, (.ref 275), (.int 529 0), (.int 136 0), (.str "/claim/cut.py" 530)]) #[])
noncomputable def o279 (P : Params) : Obj := (Obj.mk (.type "function") none (Data.func (FuncData.mk "parts_of" "parts_of" (fd 18).1 (FuncBody.stmts (fd 18).2.1) (fd 18).2.2 3 [] Value.none Value.none Value.none (.str "paperhold.objects" 371) none (.ref 276) Value.none 0)) #[])
noncomputable def tr_g5 (P : Params) : BT := (BT.node (boot_o_0 P) (BT.node (boot_o_1 P) (BT.node (o226 P) (BT.node (boot_o_7 P) (BT.node (o7 P) (BT.node (o23 P) (BT.node (o57 P) (BT.node (o121 P) (BT.node (o257 P) BT.nil BT.nil) BT.nil) (BT.node (o189 P) BT.nil BT.nil)) (BT.node (o89 P) (BT.node (o155 P) BT.nil BT.nil) (BT.node (o223 P) BT.nil BT.nil))) (BT.node (o39 P) (BT.node (o73 P) (BT.node (o137 P) (BT.node (o273 P) BT.nil BT.nil) BT.nil) (BT.node (o207 P) BT.nil BT.nil)) (BT.node (o105 P) (BT.node (o171 P) BT.nil BT.nil) (BT.node (o241 P) BT.nil BT.nil)))) (BT.node (o15 P) (BT.node (o31 P) (BT.node (o65 P) (BT.node (o129 P) (BT.node (o265 P) BT.nil BT.nil) BT.nil) (BT.node (o197 P) BT.nil BT.nil)) (BT.node (o97 P) (BT.node (o163 P) BT.nil BT.nil) (BT.node (o233 P) BT.nil BT.nil))) (BT.node (o47 P) (BT.node (o81 P) (BT.node (o145 P) BT.nil BT.nil) (BT.node (o215 P) BT.nil BT.nil)) (BT.node (o113 P) (BT.node (o181 P) BT.nil BT.nil) (BT.node (o249 P) BT.nil BT.nil))))) (BT.node (o0 P) (BT.node (o11 P) (BT.node (o27 P) (BT.node (o61 P) (BT.node (o125 P) (BT.node (o261 P) BT.nil BT.nil) BT.nil) (BT.node (o193 P) BT.nil BT.nil)) (BT.node (o93 P) (BT.node (o159 P) BT.nil BT.nil) (BT.node (o229 P) BT.nil BT.nil))) (BT.node (o43 P) (BT.node (o77 P) (BT.node (o141 P) (BT.node (o277 P) BT.nil BT.nil) BT.nil) (BT.node (o211 P) BT.nil BT.nil)) (BT.node (o109 P) (BT.node (o175 P) BT.nil BT.nil) (BT.node (o245 P) BT.nil BT.nil)))) (BT.node (o19 P) (BT.node (o35 P) (BT.node (o69 P) (BT.node (o133 P) (BT.node (o269 P) BT.nil BT.nil) BT.nil) (BT.node (o201 P) BT.nil BT.nil)) (BT.node (o101 P) (BT.node (o167 P) BT.nil BT.nil) (BT.node (o237 P) BT.nil BT.nil))) (BT.node (o53 P) (BT.node (o85 P) (BT.node (o151 P) BT.nil BT.nil) (BT.node (o219 P) BT.nil BT.nil)) (BT.node (o117 P) (BT.node (o185 P) BT.nil BT.nil) (BT.node (o253 P) BT.nil BT.nil)))))) (BT.node (boot_o_5 P) (BT.node (boot_o_9 P) (BT.node (o9 P) (BT.node (o25 P) (BT.node (o59 P) (BT.node (o123 P) (BT.node (o259 P) BT.nil BT.nil) BT.nil) (BT.node (o191 P) BT.nil BT.nil)) (BT.node (o91 P) (BT.node (o157 P) BT.nil BT.nil) (BT.node (o225 P) BT.nil BT.nil))) (BT.node (o41 P) (BT.node (o75 P) (BT.node (o139 P) (BT.node (o275 P) BT.nil BT.nil) BT.nil) (BT.node (o209 P) BT.nil BT.nil)) (BT.node (o107 P) (BT.node (o173 P) BT.nil BT.nil) (BT.node (o243 P) BT.nil BT.nil)))) (BT.node (o17 P) (BT.node (o33 P) (BT.node (o67 P) (BT.node (o131 P) (BT.node (o267 P) BT.nil BT.nil) BT.nil) (BT.node (o199 P) BT.nil BT.nil)) (BT.node (o99 P) (BT.node (o165 P) BT.nil BT.nil) (BT.node (o235 P) BT.nil BT.nil))) (BT.node (o51 P) (BT.node (o83 P) (BT.node (o147 P) BT.nil BT.nil) (BT.node (o217 P) BT.nil BT.nil)) (BT.node (o115 P) (BT.node (o183 P) BT.nil BT.nil) (BT.node (o251 P) BT.nil BT.nil))))) (BT.node (o2 P) (BT.node (o13 P) (BT.node (o29 P) (BT.node (o63 P) (BT.node (o127 P) (BT.node (o263 P) BT.nil BT.nil) BT.nil) (BT.node (o195 P) BT.nil BT.nil)) (BT.node (o95 P) (BT.node (o161 P) BT.nil BT.nil) (BT.node (o231 P) BT.nil BT.nil))) (BT.node (o45 P) (BT.node (o79 P) (BT.node (o143 P) (BT.node (o279 P) BT.nil BT.nil) BT.nil) (BT.node (o213 P) BT.nil BT.nil)) (BT.node (o111 P) (BT.node (o177 P) BT.nil BT.nil) (BT.node (o247 P) BT.nil BT.nil)))) (BT.node (o21 P) (BT.node (o37 P) (BT.node (o71 P) (BT.node (o135 P) (BT.node (o271 P) BT.nil BT.nil) BT.nil) (BT.node (o205 P) BT.nil BT.nil)) (BT.node (o103 P) (BT.node (o169 P) BT.nil BT.nil) (BT.node (o239 P) BT.nil BT.nil))) (BT.node (o55 P) (BT.node (o87 P) (BT.node (o153 P) BT.nil BT.nil) (BT.node (o221 P) BT.nil BT.nil)) (BT.node (o119 P) (BT.node (o187 P) BT.nil BT.nil) (BT.node (o255 P) BT.nil BT.nil))))))) (BT.node (o4 P) (BT.node (boot_o_4 P) (BT.node (boot_o_8 P) (BT.node (o8 P) (BT.node (o24 P) (BT.node (o58 P) (BT.node (o122 P) (BT.node (o258 P) BT.nil BT.nil) BT.nil) (BT.node (o190 P) BT.nil BT.nil)) (BT.node (o90 P) (BT.node (o156 P) BT.nil BT.nil) (BT.node (o224 P) BT.nil BT.nil))) (BT.node (o40 P) (BT.node (o74 P) (BT.node (o138 P) (BT.node (o274 P) BT.nil BT.nil) BT.nil) (BT.node (o208 P) BT.nil BT.nil)) (BT.node (o106 P) (BT.node (o172 P) BT.nil BT.nil) (BT.node (o242 P) BT.nil BT.nil)))) (BT.node (o16 P) (BT.node (o32 P) (BT.node (o66 P) (BT.node (o130 P) (BT.node (o266 P) BT.nil BT.nil) BT.nil) (BT.node (o198 P) BT.nil BT.nil)) (BT.node (o98 P) (BT.node (o164 P) BT.nil BT.nil) (BT.node (o234 P) BT.nil BT.nil))) (BT.node (o48 P) (BT.node (o82 P) (BT.node (o146 P) BT.nil BT.nil) (BT.node (o216 P) BT.nil BT.nil)) (BT.node (o114 P) (BT.node (o182 P) BT.nil BT.nil) (BT.node (o250 P) BT.nil BT.nil))))) (BT.node (o227 P) (BT.node (o12 P) (BT.node (o28 P) (BT.node (o62 P) (BT.node (o126 P) (BT.node (o262 P) BT.nil BT.nil) BT.nil) (BT.node (o194 P) BT.nil BT.nil)) (BT.node (o94 P) (BT.node (o160 P) BT.nil BT.nil) (BT.node (o230 P) BT.nil BT.nil))) (BT.node (o44 P) (BT.node (o78 P) (BT.node (o142 P) (BT.node (o278 P) BT.nil BT.nil) BT.nil) (BT.node (o212 P) BT.nil BT.nil)) (BT.node (o110 P) (BT.node (o176 P) BT.nil BT.nil) (BT.node (o246 P) BT.nil BT.nil)))) (BT.node (o20 P) (BT.node (o36 P) (BT.node (o70 P) (BT.node (o134 P) (BT.node (o270 P) BT.nil BT.nil) BT.nil) (BT.node (o202 P) BT.nil BT.nil)) (BT.node (o102 P) (BT.node (o168 P) BT.nil BT.nil) (BT.node (o238 P) BT.nil BT.nil))) (BT.node (o54 P) (BT.node (o86 P) (BT.node (o152 P) BT.nil BT.nil) (BT.node (o220 P) BT.nil BT.nil)) (BT.node (o118 P) (BT.node (o186 P) BT.nil BT.nil) (BT.node (o254 P) BT.nil BT.nil)))))) (BT.node (boot_o_6 P) (BT.node (boot_o_10 P) (BT.node (o10 P) (BT.node (o26 P) (BT.node (o60 P) (BT.node (o124 P) (BT.node (o260 P) BT.nil BT.nil) BT.nil) (BT.node (o192 P) BT.nil BT.nil)) (BT.node (o92 P) (BT.node (o158 P) BT.nil BT.nil) (BT.node (o228 P) BT.nil BT.nil))) (BT.node (o42 P) (BT.node (o76 P) (BT.node (o140 P) (BT.node (o276 P) BT.nil BT.nil) BT.nil) (BT.node (o210 P) BT.nil BT.nil)) (BT.node (o108 P) (BT.node (o174 P) BT.nil BT.nil) (BT.node (o244 P) BT.nil BT.nil)))) (BT.node (o18 P) (BT.node (o34 P) (BT.node (o68 P) (BT.node (o132 P) (BT.node (o268 P) BT.nil BT.nil) BT.nil) (BT.node (o200 P) BT.nil BT.nil)) (BT.node (o100 P) (BT.node (o166 P) BT.nil BT.nil) (BT.node (o236 P) BT.nil BT.nil))) (BT.node (o52 P) (BT.node (o84 P) (BT.node (o148 P) BT.nil BT.nil) (BT.node (o218 P) BT.nil BT.nil)) (BT.node (o116 P) (BT.node (o184 P) BT.nil BT.nil) (BT.node (o252 P) BT.nil BT.nil))))) (BT.node (o3 P) (BT.node (o14 P) (BT.node (o30 P) (BT.node (o64 P) (BT.node (o128 P) (BT.node (o264 P) BT.nil BT.nil) BT.nil) (BT.node (o196 P) BT.nil BT.nil)) (BT.node (o96 P) (BT.node (o162 P) BT.nil BT.nil) (BT.node (o232 P) BT.nil BT.nil))) (BT.node (o46 P) (BT.node (o80 P) (BT.node (o144 P) BT.nil BT.nil) (BT.node (o214 P) BT.nil BT.nil)) (BT.node (o112 P) (BT.node (o178 P) BT.nil BT.nil) (BT.node (o248 P) BT.nil BT.nil)))) (BT.node (o22 P) (BT.node (o38 P) (BT.node (o72 P) (BT.node (o136 P) (BT.node (o272 P) BT.nil BT.nil) BT.nil) (BT.node (o206 P) BT.nil BT.nil)) (BT.node (o104 P) (BT.node (o170 P) BT.nil BT.nil) (BT.node (o240 P) BT.nil BT.nil))) (BT.node (o56 P) (BT.node (o88 P) (BT.node (o154 P) BT.nil BT.nil) (BT.node (o222 P) BT.nil BT.nil)) (BT.node (o120 P) (BT.node (o188 P) BT.nil BT.nil) (BT.node (o256 P) BT.nil BT.nil))))))))
noncomputable def o280 (P : Params) : Obj := (Obj.mk (.type "dict") none (Data.dict #[(DictEntry.mk (keyHash P "__name__") (.str "__name__" 165) (.str "paperhold.objects" 371)), (DictEntry.mk (keyHash P "__doc__") (.str "__doc__" 166) Value.none), (DictEntry.mk (keyHash P "__package__") (.str "__package__" 167) Value.none), (DictEntry.mk (keyHash P "__loader__") (.str "__loader__" 168) (.builtin "__main__.__loader__#opaque")), (DictEntry.mk (keyHash P "__spec__") (.str "__spec__" 169) Value.none), (DictEntry.mk (keyHash P "__annotations__") (.str "__annotations__" 170) (.ref 6)), (DictEntry.mk (keyHash P "__builtins__") (.str "__builtins__" 171) (.ref 4)), (DictEntry.mk (keyHash P "__file__") (.str "__file__" 173) (.str "/claim/cut.py" 172)), (DictEntry.mk (keyHash P "__cached__") (.str "__cached__" 174) Value.none), (DictEntry.mk (keyHash P "_wall") (.str "_wall" 193) (.ref 21)), (DictEntry.mk (keyHash P "is_there") (.str "is_there" 205) (.ref 28)), (DictEntry.mk (keyHash P "PaperError") (.str "PaperError" 247) (.ref 53)), (DictEntry.mk (keyHash P "Decimal") (.str "Decimal" 363) (.ref 150)), (DictEntry.mk (keyHash P "sign_text") (.str "sign_text" 370) (.ref 161)), (DictEntry.mk (keyHash P "MOST_HOPS") (.str "MOST_HOPS" 374) (.int 30 373)), (DictEntry.mk (keyHash P "Name") (.str "Name" 403) (.ref 178)), (DictEntry.mk (keyHash P "String") (.str "String" 434) (.ref 200)), (DictEntry.mk (keyHash P "Stream") (.str "Stream" 465) (.ref 221)), (DictEntry.mk (keyHash P "Reference") (.str "Reference" 503) (.ref 249)), (DictEntry.mk (keyHash P "kind_of") (.str "kind_of" 510) (.ref 260)), (DictEntry.mk (keyHash P "told_plain") (.str "told_plain" 518) (.ref 267)), (DictEntry.mk (keyHash P "told") (.str "told" 524) (.ref 272)), (DictEntry.mk (keyHash P "told_objects") (.str "told_objects" 525) (.ref 272)), (DictEntry.mk (keyHash P "parts_of") (.str "parts_of" 531) (.ref 277)), (DictEntry.mk (keyHash P "references_in") (.str "references_in" 542) (.ref 284)), (DictEntry.mk (keyHash P "Lookup") (.str "Lookup" 594) (.ref 316))] 26) #[])
noncomputable def o281 (P : Params) : Obj := (Obj.mk Value.none none (Data.fields #[(.int 1 0), (.int 0 0), (.ref 20), (.int 5 0), (.int 0 0), (.ref 27), (.int 9 0), (.int 0 0), (.ref 34), (.int 19 0), (.int 0 0), (.ref 62), (.int 64 0), (.int 0 0), (.ref 160), (.int 68 0), (.int 0 0), (.ref 167), (.int 72 0), (.int 0 0), (.ref 188), (.int 77 0), (.int 0 0), (.ref 210), (.int 82 0), (.int 0 0), (.ref 231), (.int 90 0), (.int 0 0), (.ref 259), (.int 112 0), (.int 0 0), (.ref 266), (.int 126 0), (.int 0 0), (.ref 271), (.int 136 0), (.int 0 0), (.ref 276), (.int 145 0), (.int 0 0), (.ref 283), (.int 158 0), (.int 0 0), (.ref 290)]) #[])
noncomputable def o282 (P : Params) : Obj := (Obj.mk (.type "tuple") none (Data.seq #[] 0) #[])
noncomputable def o283 (P : Params) : Obj := (Obj.mk Value.none none (Data.fields #[]) #[])
noncomputable def o284 (P : Params) : Obj := (Obj.mk (.type "tuple") none (Data.seq #[(.str "value" 535), (.str "found" 536), (.str "seen" 537), (.str "line" 538), (.str "here" 539)] 0) #[])
noncomputable def o285 (P : Params) : Obj := (Obj.mk (.type "tuple") none (Data.seq #[] 0) #[])
noncomputable def o286 (P : Params) : Obj := (Obj.mk Value.none none (Data.func (FuncData.mk "references_in" "references_in" (fd 19).1 (FuncBody.stmts (fd 19).2.1) (fd 19).2.2 0 [] Value.none Value.none Value.none Value.none none Value.none Value.none 0)) #[])
noncomputable def o287 (P : Params) : Obj := (Obj.mk (.type "code") none (Data.fields #[(.str "references_in" 532), (.str "references_in" 533), (.str "/claim/cut.py" 534), (.int 145 0), (.int 1 0), (.int 0 0), (.int 0 0), (.int 3 0), (.ref 278), (.bool Bool.true), (.int 181 0), (.ref 279), Value.none, (.ref 280), (.ref 281), (.ref 282), (.int 540 0), (.int 145 0), (.str "/claim/cut.py" 541)]) #[])
noncomputable def o288 (P : Params) : Obj := (Obj.mk (.type "function") none (Data.func (FuncData.mk "references_in" "references_in" (fd 19).1 (FuncBody.stmts (fd 19).2.1) (fd 19).2.2 3 [] Value.none Value.none Value.none (.str "paperhold.objects" 371) none (.ref 283) Value.none 0)) #[])
noncomputable def o289 (P : Params) : Obj := (Obj.mk (.type "tuple") none (Data.seq #[] 0) #[])
noncomputable def o290 (P : Params) : Obj := (Obj.mk (.type "builtin_function_or_method") none (Data.fields #[(.builtin "type.__prepare__"), (.type "type")]) #[])
noncomputable def o291 (P : Params) : Obj := (Obj.mk (.type "dict") none (Data.dict #[(DictEntry.mk (keyHash P "__module__") (.str "__module__" 550) (.str "paperhold.objects" 371)), (DictEntry.mk (keyHash P "__qualname__") (.str "__qualname__" 552) (.str "Lookup" 551)), (DictEntry.mk (keyHash P "__firstlineno__") (.str "__firstlineno__" 554) (.int 158 553)), (DictEntry.mk (keyHash P "__init__") (.str "__init__" 563) (.ref 299)), (DictEntry.mk (keyHash P "fetch") (.str "fetch" 575) (.ref 306)), (DictEntry.mk (keyHash P "get") (.str "get" 584) (.ref 313)), (DictEntry.mk (keyHash P "__static_attributes__") (.str "__static_attributes__" 587) (.ref 314))] 7) #[])
noncomputable def o292 (P : Params) : Obj := (Obj.mk (.type "tuple") none (Data.seq #[] 0) #[])
noncomputable def o293 (P : Params) : Obj := (Obj.mk Value.none none (Data.fields #[(.int 160 0), (.int 4 0), (.ref 298), (.int 164 0), (.int 4 0), (.ref 305), (.int 175 0), (.int 4 0), (.ref 312)]) #[])
noncomputable def o294 (P : Params) : Obj := (Obj.mk (.type "code") none (Data.fields #[(.str "Lookup" 545), (.str "Lookup" 546), (.str "/claim/cut.py" 547), (.int 158 0), (.int 0 0), (.int 0 0), (.int 0 0), (.int 0 0), (.ref 288), (.bool Bool.false), (.int 181 0), (.ref 289), Value.none, Value.none, Value.none, Value.none, (.int 548 0), (.int 158 0), (.str "/claim/cut.py" 549)]) #[])
noncomputable def o295 (P : Params) : Obj := (Obj.mk (.type "frame") none Data.plain #[(some (.ref 290)), (some (.ref 3)), (some (.ref 287)), none, (some (.str "paperhold.objects" 371)), none, (some (.ref 0))])
noncomputable def o296 (P : Params) : Obj := (Obj.mk (.type "tuple") none (Data.seq #[Value.none, Value.none] 0) #[])
noncomputable def o297 (P : Params) : Obj := (Obj.mk (.type "tuple") none (Data.seq #[] 0) #[])
noncomputable def o298 (P : Params) : Obj := (Obj.mk Value.none none (Data.fields #[]) #[])
noncomputable def o299 (P : Params) : Obj := (Obj.mk (.type "tuple") none (Data.seq #[(.str "self" 558), (.str "table" 559), (.str "trailer" 560)] 0) #[])
noncomputable def o300 (P : Params) : Obj := (Obj.mk (.type "tuple") none (Data.seq #[] 0) #[])
noncomputable def o301 (P : Params) : Obj := (Obj.mk Value.none none (Data.func (FuncData.mk "__init__" "Lookup.__init__" (md 20 0).1 (FuncBody.stmts (md 20 0).2.1) (md 20 0).2.2 0 [] Value.none Value.none Value.none Value.none none Value.none Value.none 0)) #[])
noncomputable def o302 (P : Params) : Obj := (Obj.mk (.type "code") none (Data.fields #[(.str "__init__" 555), (.str "Lookup.__init__" 556), (.str "/claim/cut.py" 557), (.int 160 0), (.int 3 0), (.int 0 0), (.int 0 0), (.int 3 0), (.ref 293), (.bool Bool.true), (.int 181 0), (.ref 294), Value.none, (.ref 295), (.ref 296), (.ref 297), (.int 561 0), (.int 160 0), (.str "/claim/cut.py" 562)]) #[])
noncomputable def o303 (P : Params) : Obj := (Obj.mk (.type "function") none (Data.func (FuncData.mk "__init__" "Lookup.__init__" (md 20 0).1 (FuncBody.stmts (md 20 0).2.1) (md 20 0).2.2 3 [] (.ref 292) Value.none Value.none (.str "paperhold.objects" 371) none (.ref 298) Value.none 0)) #[])
noncomputable def o304 (P : Params) : Obj := (Obj.mk (.type "tuple") none (Data.seq #[] 0) #[])
noncomputable def o305 (P : Params) : Obj := (Obj.mk Value.none none (Data.fields #[]) #[])
noncomputable def o306 (P : Params) : Obj := (Obj.mk (.type "tuple") none (Data.seq #[(.str "self" 567), (.str "value" 568), (.str "here" 569), (.str "hop" 570), (.str "generation" 571), (.str "found" 572)] 0) #[])
noncomputable def o307 (P : Params) : Obj := (Obj.mk (.type "tuple") none (Data.seq #[] 0) #[])
noncomputable def o308 (P : Params) : Obj := (Obj.mk Value.none none (Data.func (FuncData.mk "fetch" "Lookup.fetch" (md 20 1).1 (FuncBody.stmts (md 20 1).2.1) (md 20 1).2.2 0 [] Value.none Value.none Value.none Value.none none Value.none Value.none 0)) #[])
noncomputable def o309 (P : Params) : Obj := (Obj.mk (.type "code") none (Data.fields #[(.str "fetch" 564), (.str "Lookup.fetch" 565), (.str "/claim/cut.py" 566), (.int 164 0), (.int 2 0), (.int 0 0), (.int 0 0), (.int 3 0), (.ref 300), (.bool Bool.true), (.int 181 0), (.ref 301), Value.none, (.ref 302), (.ref 303), (.ref 304), (.int 573 0), (.int 164 0), (.str "/claim/cut.py" 574)]) #[])
noncomputable def o310 (P : Params) : Obj := (Obj.mk (.type "function") none (Data.func (FuncData.mk "fetch" "Lookup.fetch" (md 20 1).1 (FuncBody.stmts (md 20 1).2.1) (md 20 1).2.2 3 [] Value.none Value.none Value.none (.str "paperhold.objects" 371) none (.ref 305) Value.none 0)) #[])
noncomputable def o311 (P : Params) : Obj := (Obj.mk (.type "tuple") none (Data.seq #[] 0) #[])
noncomputable def o312 (P : Params) : Obj := (Obj.mk Value.none none (Data.fields #[]) #[])
noncomputable def o313 (P : Params) : Obj := (Obj.mk (.type "tuple") none (Data.seq #[(.str "self" 579), (.str "head" 580), (.str "key" 581)] 0) #[])
noncomputable def o314 (P : Params) : Obj := (Obj.mk (.type "tuple") none (Data.seq #[] 0) #[])
noncomputable def o315 (P : Params) : Obj := (Obj.mk Value.none none (Data.func (FuncData.mk "get" "Lookup.get" (md 20 2).1 (FuncBody.stmts (md 20 2).2.1) (md 20 2).2.2 0 [] Value.none Value.none Value.none Value.none none Value.none Value.none 0)) #[])
noncomputable def o316 (P : Params) : Obj := (Obj.mk (.type "code") none (Data.fields #[(.str "get" 576), (.str "Lookup.get" 577), (.str "/claim/cut.py" 578), (.int 175 0), (.int 3 0), (.int 0 0), (.int 0 0), (.int 3 0), (.ref 307), (.bool Bool.true), (.int 181 0), (.ref 308), Value.none, (.ref 309), (.ref 310), (.ref 311), (.int 582 0), (.int 175 0), (.str "/claim/cut.py" 583)]) #[])
noncomputable def o317 (P : Params) : Obj := (Obj.mk (.type "function") none (Data.func (FuncData.mk "get" "Lookup.get" (md 20 2).1 (FuncBody.stmts (md 20 2).2.1) (md 20 2).2.2 3 [] Value.none Value.none Value.none (.str "paperhold.objects" 371) none (.ref 312) Value.none 0)) #[])
noncomputable def o318 (P : Params) : Obj := (Obj.mk (.type "tuple") none (Data.seq #[(.str "table" 585), (.str "trailer" 586)] 0) #[])
noncomputable def o319 (P : Params) : Obj := (Obj.mk (.type "dict") none (Data.dict #[(DictEntry.mk (keyHash P "__module__") (.str "__module__" 550) (.str "paperhold.objects" 371)), (DictEntry.mk (keyHash P "__firstlineno__") (.str "__firstlineno__" 554) (.int 158 553)), (DictEntry.mk (keyHash P "__init__") (.str "__init__" 563) (.ref 299)), (DictEntry.mk (keyHash P "fetch") (.str "fetch" 575) (.ref 306)), (DictEntry.mk (keyHash P "get") (.str "get" 584) (.ref 313)), (DictEntry.mk (keyHash P "__static_attributes__") (.str "__static_attributes__" 587) (.ref 314)), (DictEntry.mk (keyHash P "__dict__") (.str "__dict__" 589) (.ref 317)), (DictEntry.mk (keyHash P "__weakref__") (.str "__weakref__" 591) (.ref 318)), (DictEntry.mk (keyHash P "__doc__") (.str "__doc__" 592) Value.none)] 4) #[])
noncomputable def o320 (P : Params) : Obj := (Obj.mk (.type "type") none (Data.cls (ClassData.mk "Lookup" [(.type "object")] [(.ref 316), (.type "object")] 315 "Lookup" Bool.true [] [] Bool.false none Bool.false)) #[none, none, (some (.str "Lookup" 543)), (some (.str "Lookup" 551)), (some (.builtin "object.__new__")), (some (.bool Bool.true))])
noncomputable def o321 (P : Params) : Obj := (Obj.mk (.type "getset_descriptor") none (Data.fields #[(.str "__dict__" 588), (.ref 316), (.builtin "function.__dict__"), (.builtin "function.__dict__#set")]) #[])
noncomputable def o322 (P : Params) : Obj := (Obj.mk (.type "getset_descriptor") none (Data.fields #[(.str "__weakref__" 590), (.ref 316), (.builtin "ExceptionGroup.__weakref__"), Value.none]) #[])
noncomputable def o323 (P : Params) : Obj := (Obj.mk (.type "super") none (Data.fields #[(.ref 316), (.ref 316), (.ref 316)]) #[])
noncomputable def o324 (P : Params) : Obj := (Obj.mk (.type "builtin_function_or_method") none (Data.fields #[(.builtin "object.__init_subclass__"), (.ref 316)]) #[])
noncomputable def tr_g6 (P : Params) : BT := (BT.node (boot_o_0 P) (BT.node (boot_o_1 P) (BT.node (o280 P) (BT.node (boot_o_7 P) (BT.node (o7 P) (BT.node (o23 P) (BT.node (o57 P) (BT.node (o121 P) (BT.node (o257 P) BT.nil BT.nil) BT.nil) (BT.node (o189 P) (BT.node (o323 P) BT.nil BT.nil) BT.nil)) (BT.node (o89 P) (BT.node (o155 P) (BT.node (o291 P) BT.nil BT.nil) BT.nil) (BT.node (o223 P) BT.nil BT.nil))) (BT.node (o39 P) (BT.node (o73 P) (BT.node (o137 P) (BT.node (o273 P) BT.nil BT.nil) BT.nil) (BT.node (o207 P) BT.nil BT.nil)) (BT.node (o105 P) (BT.node (o171 P) (BT.node (o307 P) BT.nil BT.nil) BT.nil) (BT.node (o241 P) BT.nil BT.nil)))) (BT.node (o15 P) (BT.node (o31 P) (BT.node (o65 P) (BT.node (o129 P) (BT.node (o265 P) BT.nil BT.nil) BT.nil) (BT.node (o197 P) BT.nil BT.nil)) (BT.node (o97 P) (BT.node (o163 P) (BT.node (o299 P) BT.nil BT.nil) BT.nil) (BT.node (o233 P) BT.nil BT.nil))) (BT.node (o47 P) (BT.node (o81 P) (BT.node (o145 P) (BT.node (o283 P) BT.nil BT.nil) BT.nil) (BT.node (o215 P) BT.nil BT.nil)) (BT.node (o113 P) (BT.node (o181 P) (BT.node (o315 P) BT.nil BT.nil) BT.nil) (BT.node (o249 P) BT.nil BT.nil))))) (BT.node (o0 P) (BT.node (o11 P) (BT.node (o27 P) (BT.node (o61 P) (BT.node (o125 P) (BT.node (o261 P) BT.nil BT.nil) BT.nil) (BT.node (o193 P) BT.nil BT.nil)) (BT.node (o93 P) (BT.node (o159 P) (BT.node (o295 P) BT.nil BT.nil) BT.nil) (BT.node (o229 P) BT.nil BT.nil))) (BT.node (o43 P) (BT.node (o77 P) (BT.node (o141 P) (BT.node (o277 P) BT.nil BT.nil) BT.nil) (BT.node (o211 P) BT.nil BT.nil)) (BT.node (o109 P) (BT.node (o175 P) (BT.node (o311 P) BT.nil BT.nil) BT.nil) (BT.node (o245 P) BT.nil BT.nil)))) (BT.node (o19 P) (BT.node (o35 P) (BT.node (o69 P) (BT.node (o133 P) (BT.node (o269 P) BT.nil BT.nil) BT.nil) (BT.node (o201 P) BT.nil BT.nil)) (BT.node (o101 P) (BT.node (o167 P) (BT.node (o303 P) BT.nil BT.nil) BT.nil) (BT.node (o237 P) BT.nil BT.nil))) (BT.node (o53 P) (BT.node (o85 P) (BT.node (o151 P) (BT.node (o287 P) BT.nil BT.nil) BT.nil) (BT.node (o219 P) BT.nil BT.nil)) (BT.node (o117 P) (BT.node (o185 P) (BT.node (o319 P) BT.nil BT.nil) BT.nil) (BT.node (o253 P) BT.nil BT.nil)))))) (BT.node (boot_o_5 P) (BT.node (boot_o_9 P) (BT.node (o9 P) (BT.node (o25 P) (BT.node (o59 P) (BT.node (o123 P) (BT.node (o259 P) BT.nil BT.nil) BT.nil) (BT.node (o191 P) BT.nil BT.nil)) (BT.node (o91 P) (BT.node (o157 P) (BT.node (o293 P) BT.nil BT.nil) BT.nil) (BT.node (o225 P) BT.nil BT.nil))) (BT.node (o41 P) (BT.node (o75 P) (BT.node (o139 P) (BT.node (o275 P) BT.nil BT.nil) BT.nil) (BT.node (o209 P) BT.nil BT.nil)) (BT.node (o107 P) (BT.node (o173 P) (BT.node (o309 P) BT.nil BT.nil) BT.nil) (BT.node (o243 P) BT.nil BT.nil)))) (BT.node (o17 P) (BT.node (o33 P) (BT.node (o67 P) (BT.node (o131 P) (BT.node (o267 P) BT.nil BT.nil) BT.nil) (BT.node (o199 P) BT.nil BT.nil)) (BT.node (o99 P) (BT.node (o165 P) (BT.node (o301 P) BT.nil BT.nil) BT.nil) (BT.node (o235 P) BT.nil BT.nil))) (BT.node (o51 P) (BT.node (o83 P) (BT.node (o147 P) (BT.node (o285 P) BT.nil BT.nil) BT.nil) (BT.node (o217 P) BT.nil BT.nil)) (BT.node (o115 P) (BT.node (o183 P) (BT.node (o317 P) BT.nil BT.nil) BT.nil) (BT.node (o251 P) BT.nil BT.nil))))) (BT.node (o2 P) (BT.node (o13 P) (BT.node (o29 P) (BT.node (o63 P) (BT.node (o127 P) (BT.node (o263 P) BT.nil BT.nil) BT.nil) (BT.node (o195 P) BT.nil BT.nil)) (BT.node (o95 P) (BT.node (o161 P) (BT.node (o297 P) BT.nil BT.nil) BT.nil) (BT.node (o231 P) BT.nil BT.nil))) (BT.node (o45 P) (BT.node (o79 P) (BT.node (o143 P) (BT.node (o279 P) BT.nil BT.nil) BT.nil) (BT.node (o213 P) BT.nil BT.nil)) (BT.node (o111 P) (BT.node (o177 P) (BT.node (o313 P) BT.nil BT.nil) BT.nil) (BT.node (o247 P) BT.nil BT.nil)))) (BT.node (o21 P) (BT.node (o37 P) (BT.node (o71 P) (BT.node (o135 P) (BT.node (o271 P) BT.nil BT.nil) BT.nil) (BT.node (o205 P) BT.nil BT.nil)) (BT.node (o103 P) (BT.node (o169 P) (BT.node (o305 P) BT.nil BT.nil) BT.nil) (BT.node (o239 P) BT.nil BT.nil))) (BT.node (o55 P) (BT.node (o87 P) (BT.node (o153 P) (BT.node (o289 P) BT.nil BT.nil) BT.nil) (BT.node (o221 P) BT.nil BT.nil)) (BT.node (o119 P) (BT.node (o187 P) (BT.node (o321 P) BT.nil BT.nil) BT.nil) (BT.node (o255 P) BT.nil BT.nil))))))) (BT.node (o4 P) (BT.node (boot_o_4 P) (BT.node (boot_o_8 P) (BT.node (o8 P) (BT.node (o24 P) (BT.node (o58 P) (BT.node (o122 P) (BT.node (o258 P) BT.nil BT.nil) BT.nil) (BT.node (o190 P) (BT.node (o324 P) BT.nil BT.nil) BT.nil)) (BT.node (o90 P) (BT.node (o156 P) (BT.node (o292 P) BT.nil BT.nil) BT.nil) (BT.node (o224 P) BT.nil BT.nil))) (BT.node (o40 P) (BT.node (o74 P) (BT.node (o138 P) (BT.node (o274 P) BT.nil BT.nil) BT.nil) (BT.node (o208 P) BT.nil BT.nil)) (BT.node (o106 P) (BT.node (o172 P) (BT.node (o308 P) BT.nil BT.nil) BT.nil) (BT.node (o242 P) BT.nil BT.nil)))) (BT.node (o16 P) (BT.node (o32 P) (BT.node (o66 P) (BT.node (o130 P) (BT.node (o266 P) BT.nil BT.nil) BT.nil) (BT.node (o198 P) BT.nil BT.nil)) (BT.node (o98 P) (BT.node (o164 P) (BT.node (o300 P) BT.nil BT.nil) BT.nil) (BT.node (o234 P) BT.nil BT.nil))) (BT.node (o48 P) (BT.node (o82 P) (BT.node (o146 P) (BT.node (o284 P) BT.nil BT.nil) BT.nil) (BT.node (o216 P) BT.nil BT.nil)) (BT.node (o114 P) (BT.node (o182 P) (BT.node (o316 P) BT.nil BT.nil) BT.nil) (BT.node (o250 P) BT.nil BT.nil))))) (BT.node (o281 P) (BT.node (o12 P) (BT.node (o28 P) (BT.node (o62 P) (BT.node (o126 P) (BT.node (o262 P) BT.nil BT.nil) BT.nil) (BT.node (o194 P) BT.nil BT.nil)) (BT.node (o94 P) (BT.node (o160 P) (BT.node (o296 P) BT.nil BT.nil) BT.nil) (BT.node (o230 P) BT.nil BT.nil))) (BT.node (o44 P) (BT.node (o78 P) (BT.node (o142 P) (BT.node (o278 P) BT.nil BT.nil) BT.nil) (BT.node (o212 P) BT.nil BT.nil)) (BT.node (o110 P) (BT.node (o176 P) (BT.node (o312 P) BT.nil BT.nil) BT.nil) (BT.node (o246 P) BT.nil BT.nil)))) (BT.node (o20 P) (BT.node (o36 P) (BT.node (o70 P) (BT.node (o134 P) (BT.node (o270 P) BT.nil BT.nil) BT.nil) (BT.node (o202 P) BT.nil BT.nil)) (BT.node (o102 P) (BT.node (o168 P) (BT.node (o304 P) BT.nil BT.nil) BT.nil) (BT.node (o238 P) BT.nil BT.nil))) (BT.node (o54 P) (BT.node (o86 P) (BT.node (o152 P) (BT.node (o288 P) BT.nil BT.nil) BT.nil) (BT.node (o220 P) BT.nil BT.nil)) (BT.node (o118 P) (BT.node (o186 P) (BT.node (o320 P) BT.nil BT.nil) BT.nil) (BT.node (o254 P) BT.nil BT.nil)))))) (BT.node (boot_o_6 P) (BT.node (boot_o_10 P) (BT.node (o10 P) (BT.node (o26 P) (BT.node (o60 P) (BT.node (o124 P) (BT.node (o260 P) BT.nil BT.nil) BT.nil) (BT.node (o192 P) BT.nil BT.nil)) (BT.node (o92 P) (BT.node (o158 P) (BT.node (o294 P) BT.nil BT.nil) BT.nil) (BT.node (o228 P) BT.nil BT.nil))) (BT.node (o42 P) (BT.node (o76 P) (BT.node (o140 P) (BT.node (o276 P) BT.nil BT.nil) BT.nil) (BT.node (o210 P) BT.nil BT.nil)) (BT.node (o108 P) (BT.node (o174 P) (BT.node (o310 P) BT.nil BT.nil) BT.nil) (BT.node (o244 P) BT.nil BT.nil)))) (BT.node (o18 P) (BT.node (o34 P) (BT.node (o68 P) (BT.node (o132 P) (BT.node (o268 P) BT.nil BT.nil) BT.nil) (BT.node (o200 P) BT.nil BT.nil)) (BT.node (o100 P) (BT.node (o166 P) (BT.node (o302 P) BT.nil BT.nil) BT.nil) (BT.node (o236 P) BT.nil BT.nil))) (BT.node (o52 P) (BT.node (o84 P) (BT.node (o148 P) (BT.node (o286 P) BT.nil BT.nil) BT.nil) (BT.node (o218 P) BT.nil BT.nil)) (BT.node (o116 P) (BT.node (o184 P) (BT.node (o318 P) BT.nil BT.nil) BT.nil) (BT.node (o252 P) BT.nil BT.nil))))) (BT.node (o3 P) (BT.node (o14 P) (BT.node (o30 P) (BT.node (o64 P) (BT.node (o128 P) (BT.node (o264 P) BT.nil BT.nil) BT.nil) (BT.node (o196 P) BT.nil BT.nil)) (BT.node (o96 P) (BT.node (o162 P) (BT.node (o298 P) BT.nil BT.nil) BT.nil) (BT.node (o232 P) BT.nil BT.nil))) (BT.node (o46 P) (BT.node (o80 P) (BT.node (o144 P) (BT.node (o282 P) BT.nil BT.nil) BT.nil) (BT.node (o214 P) BT.nil BT.nil)) (BT.node (o112 P) (BT.node (o178 P) (BT.node (o314 P) BT.nil BT.nil) BT.nil) (BT.node (o248 P) BT.nil BT.nil)))) (BT.node (o22 P) (BT.node (o38 P) (BT.node (o72 P) (BT.node (o136 P) (BT.node (o272 P) BT.nil BT.nil) BT.nil) (BT.node (o206 P) BT.nil BT.nil)) (BT.node (o104 P) (BT.node (o170 P) (BT.node (o306 P) BT.nil BT.nil) BT.nil) (BT.node (o240 P) BT.nil BT.nil))) (BT.node (o56 P) (BT.node (o88 P) (BT.node (o154 P) (BT.node (o290 P) BT.nil BT.nil) BT.nil) (BT.node (o222 P) BT.nil BT.nil)) (BT.node (o120 P) (BT.node (o188 P) (BT.node (o322 P) BT.nil BT.nil) BT.nil) (BT.node (o256 P) BT.nil BT.nil))))))))
noncomputable def o325 (P : Params) : Obj := (Obj.mk (.type "dict") none (Data.dict #[(DictEntry.mk (keyHash P "__name__") (.str "__name__" 165) (.str "paperhold.objects" 371)), (DictEntry.mk (keyHash P "__doc__") (.str "__doc__" 166) Value.none), (DictEntry.mk (keyHash P "__package__") (.str "__package__" 167) Value.none), (DictEntry.mk (keyHash P "__loader__") (.str "__loader__" 168) (.builtin "__main__.__loader__#opaque")), (DictEntry.mk (keyHash P "__spec__") (.str "__spec__" 169) Value.none), (DictEntry.mk (keyHash P "__annotations__") (.str "__annotations__" 170) (.ref 6)), (DictEntry.mk (keyHash P "__builtins__") (.str "__builtins__" 171) (.ref 4)), (DictEntry.mk (keyHash P "__file__") (.str "__file__" 173) (.str "/claim/cut.py" 172)), (DictEntry.mk (keyHash P "__cached__") (.str "__cached__" 174) Value.none), (DictEntry.mk (keyHash P "_wall") (.str "_wall" 193) (.ref 21)), (DictEntry.mk (keyHash P "is_there") (.str "is_there" 205) (.ref 28)), (DictEntry.mk (keyHash P "PaperError") (.str "PaperError" 247) (.ref 53)), (DictEntry.mk (keyHash P "Decimal") (.str "Decimal" 363) (.ref 150)), (DictEntry.mk (keyHash P "sign_text") (.str "sign_text" 370) (.ref 161)), (DictEntry.mk (keyHash P "MOST_HOPS") (.str "MOST_HOPS" 374) (.int 30 373)), (DictEntry.mk (keyHash P "Name") (.str "Name" 403) (.ref 178)), (DictEntry.mk (keyHash P "String") (.str "String" 434) (.ref 200)), (DictEntry.mk (keyHash P "Stream") (.str "Stream" 465) (.ref 221)), (DictEntry.mk (keyHash P "Reference") (.str "Reference" 503) (.ref 249)), (DictEntry.mk (keyHash P "kind_of") (.str "kind_of" 510) (.ref 260)), (DictEntry.mk (keyHash P "told_plain") (.str "told_plain" 518) (.ref 267)), (DictEntry.mk (keyHash P "told") (.str "told" 524) (.ref 272)), (DictEntry.mk (keyHash P "told_objects") (.str "told_objects" 525) (.ref 272)), (DictEntry.mk (keyHash P "parts_of") (.str "parts_of" 531) (.ref 277)), (DictEntry.mk (keyHash P "references_in") (.str "references_in" 542) (.ref 284)), (DictEntry.mk (keyHash P "Lookup") (.str "Lookup" 594) (.ref 316)), (DictEntry.mk (keyHash P "Shelf") (.str "Shelf" 657) (.ref 370))] 27) #[])
noncomputable def o326 (P : Params) : Obj := (Obj.mk Value.none none (Data.fields #[(.int 1 0), (.int 0 0), (.ref 20), (.int 5 0), (.int 0 0), (.ref 27), (.int 9 0), (.int 0 0), (.ref 34), (.int 19 0), (.int 0 0), (.ref 62), (.int 64 0), (.int 0 0), (.ref 160), (.int 68 0), (.int 0 0), (.ref 167), (.int 72 0), (.int 0 0), (.ref 188), (.int 77 0), (.int 0 0), (.ref 210), (.int 82 0), (.int 0 0), (.ref 231), (.int 90 0), (.int 0 0), (.ref 259), (.int 112 0), (.int 0 0), (.ref 266), (.int 126 0), (.int 0 0), (.ref 271), (.int 136 0), (.int 0 0), (.ref 276), (.int 145 0), (.int 0 0), (.ref 283), (.int 158 0), (.int 0 0), (.ref 290), (.int 177 0), (.int 0 0), (.ref 326)]) #[])
noncomputable def o327 (P : Params) : Obj := (Obj.mk (.type "type") none (Data.cls (ClassData.mk "Lookup" [(.type "object")] [(.ref 316), (.type "object")] 315 "Lookup" Bool.true [] [(.ref 370)] Bool.false none Bool.false)) #[none, none, (some (.str "Lookup" 543)), (some (.str "Lookup" 551)), (some (.builtin "object.__new__")), (some (.bool Bool.true))])
noncomputable def o328 (P : Params) : Obj := (Obj.mk (.type "tuple") none (Data.seq #[(.ref 316)] 0) #[])
noncomputable def o329 (P : Params) : Obj := (Obj.mk (.type "builtin_function_or_method") none (Data.fields #[(.builtin "type.__prepare__"), (.type "type")]) #[])
noncomputable def o330 (P : Params) : Obj := (Obj.mk (.type "dict") none (Data.dict #[(DictEntry.mk (keyHash P "__module__") (.str "__module__" 602) (.str "paperhold.objects" 371)), (DictEntry.mk (keyHash P "__qualname__") (.str "__qualname__" 604) (.str "Shelf" 603)), (DictEntry.mk (keyHash P "__firstlineno__") (.str "__firstlineno__" 606) (.int 177 605)), (DictEntry.mk (keyHash P "put") (.str "put" 616) (.ref 334)), (DictEntry.mk (keyHash P "add") (.str "add" 624) (.ref 341)), (DictEntry.mk (keyHash P "drop") (.str "drop" 632) (.ref 348)), (DictEntry.mk (keyHash P "numbers") (.str "numbers" 639) (.ref 355)), (DictEntry.mk (keyHash P "root") (.str "root" 647) (.ref 362)), (DictEntry.mk (keyHash P "told") (.str "told" 653) (.ref 367)), (DictEntry.mk (keyHash P "__static_attributes__") (.str "__static_attributes__" 654) (.ref 368))] 10) #[])
noncomputable def o331 (P : Params) : Obj := (Obj.mk (.type "tuple") none (Data.seq #[] 0) #[])
noncomputable def o332 (P : Params) : Obj := (Obj.mk Value.none none (Data.fields #[(.int 179 0), (.int 4 0), (.ref 333), (.int 182 0), (.int 4 0), (.ref 340), (.int 185 0), (.int 4 0), (.ref 347), (.int 188 0), (.int 4 0), (.ref 354), (.int 191 0), (.int 4 0), (.ref 361), (.int 195 0), (.int 4 0), (.ref 366)]) #[])
noncomputable def o333 (P : Params) : Obj := (Obj.mk (.type "code") none (Data.fields #[(.str "Shelf" 597), (.str "Shelf" 598), (.str "/claim/cut.py" 599), (.int 177 0), (.int 0 0), (.int 0 0), (.int 0 0), (.int 0 0), (.ref 324), (.bool Bool.false), (.int 181 0), (.ref 325), Value.none, Value.none, Value.none, Value.none, (.int 600 0), (.int 177 0), (.str "/claim/cut.py" 601)]) #[])
noncomputable def o334 (P : Params) : Obj := (Obj.mk (.type "frame") none Data.plain #[(some (.ref 326)), (some (.ref 3)), (some (.ref 323)), none, (some (.str "paperhold.objects" 371)), none, (some (.ref 0))])
noncomputable def o335 (P : Params) : Obj := (Obj.mk (.type "tuple") none (Data.seq #[] 0) #[])
noncomputable def o336 (P : Params) : Obj := (Obj.mk Value.none none (Data.fields #[]) #[])
noncomputable def o337 (P : Params) : Obj := (Obj.mk (.type "tuple") none (Data.seq #[(.str "self" 610), (.str "number" 611), (.str "generation" 612), (.str "value" 613)] 0) #[])
noncomputable def o338 (P : Params) : Obj := (Obj.mk (.type "tuple") none (Data.seq #[] 0) #[])
noncomputable def o339 (P : Params) : Obj := (Obj.mk Value.none none (Data.func (FuncData.mk "put" "Shelf.put" (md 21 0).1 (FuncBody.stmts (md 21 0).2.1) (md 21 0).2.2 0 [] Value.none Value.none Value.none Value.none none Value.none Value.none 0)) #[])
noncomputable def o340 (P : Params) : Obj := (Obj.mk (.type "code") none (Data.fields #[(.str "put" 607), (.str "Shelf.put" 608), (.str "/claim/cut.py" 609), (.int 179 0), (.int 4 0), (.int 0 0), (.int 0 0), (.int 3 0), (.ref 328), (.bool Bool.true), (.int 181 0), (.ref 329), Value.none, (.ref 330), (.ref 331), (.ref 332), (.int 614 0), (.int 179 0), (.str "/claim/cut.py" 615)]) #[])
noncomputable def o341 (P : Params) : Obj := (Obj.mk (.type "function") none (Data.func (FuncData.mk "put" "Shelf.put" (md 21 0).1 (FuncBody.stmts (md 21 0).2.1) (md 21 0).2.2 3 [] Value.none Value.none Value.none (.str "paperhold.objects" 371) none (.ref 333) Value.none 0)) #[])
noncomputable def o342 (P : Params) : Obj := (Obj.mk (.type "tuple") none (Data.seq #[] 0) #[])
noncomputable def o343 (P : Params) : Obj := (Obj.mk Value.none none (Data.fields #[]) #[])
noncomputable def o344 (P : Params) : Obj := (Obj.mk (.type "tuple") none (Data.seq #[(.str "self" 620), (.str "value" 621)] 0) #[])
noncomputable def o345 (P : Params) : Obj := (Obj.mk (.type "tuple") none (Data.seq #[] 0) #[])
noncomputable def o346 (P : Params) : Obj := (Obj.mk Value.none none (Data.func (FuncData.mk "add" "Shelf.add" (md 21 1).1 (FuncBody.stmts (md 21 1).2.1) (md 21 1).2.2 0 [] Value.none Value.none Value.none Value.none none Value.none Value.none 0)) #[])
noncomputable def o347 (P : Params) : Obj := (Obj.mk (.type "code") none (Data.fields #[(.str "add" 617), (.str "Shelf.add" 618), (.str "/claim/cut.py" 619), (.int 182 0), (.int 2 0), (.int 0 0), (.int 0 0), (.int 3 0), (.ref 335), (.bool Bool.true), (.int 181 0), (.ref 336), Value.none, (.ref 337), (.ref 338), (.ref 339), (.int 622 0), (.int 182 0), (.str "/claim/cut.py" 623)]) #[])
noncomputable def o348 (P : Params) : Obj := (Obj.mk (.type "function") none (Data.func (FuncData.mk "add" "Shelf.add" (md 21 1).1 (FuncBody.stmts (md 21 1).2.1) (md 21 1).2.2 3 [] Value.none Value.none Value.none (.str "paperhold.objects" 371) none (.ref 340) Value.none 0)) #[])
noncomputable def o349 (P : Params) : Obj := (Obj.mk (.type "tuple") none (Data.seq #[] 0) #[])
noncomputable def o350 (P : Params) : Obj := (Obj.mk Value.none none (Data.fields #[]) #[])
noncomputable def o351 (P : Params) : Obj := (Obj.mk (.type "tuple") none (Data.seq #[(.str "self" 628), (.str "number" 629)] 0) #[])
noncomputable def o352 (P : Params) : Obj := (Obj.mk (.type "tuple") none (Data.seq #[] 0) #[])
noncomputable def o353 (P : Params) : Obj := (Obj.mk Value.none none (Data.func (FuncData.mk "drop" "Shelf.drop" (md 21 2).1 (FuncBody.stmts (md 21 2).2.1) (md 21 2).2.2 0 [] Value.none Value.none Value.none Value.none none Value.none Value.none 0)) #[])
noncomputable def o354 (P : Params) : Obj := (Obj.mk (.type "code") none (Data.fields #[(.str "drop" 625), (.str "Shelf.drop" 626), (.str "/claim/cut.py" 627), (.int 185 0), (.int 2 0), (.int 0 0), (.int 0 0), (.int 3 0), (.ref 342), (.bool Bool.true), (.int 181 0), (.ref 343), Value.none, (.ref 344), (.ref 345), (.ref 346), (.int 630 0), (.int 185 0), (.str "/claim/cut.py" 631)]) #[])
noncomputable def o355 (P : Params) : Obj := (Obj.mk (.type "function") none (Data.func (FuncData.mk "drop" "Shelf.drop" (md 21 2).1 (FuncBody.stmts (md 21 2).2.1) (md 21 2).2.2 3 [] Value.none Value.none Value.none (.str "paperhold.objects" 371) none (.ref 347) Value.none 0)) #[])
noncomputable def o356 (P : Params) : Obj := (Obj.mk (.type "tuple") none (Data.seq #[] 0) #[])
noncomputable def o357 (P : Params) : Obj := (Obj.mk Value.none none (Data.fields #[]) #[])
noncomputable def o358 (P : Params) : Obj := (Obj.mk (.type "tuple") none (Data.seq #[(.str "self" 636)] 0) #[])
noncomputable def o359 (P : Params) : Obj := (Obj.mk (.type "tuple") none (Data.seq #[] 0) #[])
noncomputable def o360 (P : Params) : Obj := (Obj.mk Value.none none (Data.func (FuncData.mk "numbers" "Shelf.numbers" (md 21 3).1 (FuncBody.stmts (md 21 3).2.1) (md 21 3).2.2 0 [] Value.none Value.none Value.none Value.none none Value.none Value.none 0)) #[])
noncomputable def o361 (P : Params) : Obj := (Obj.mk (.type "code") none (Data.fields #[(.str "numbers" 633), (.str "Shelf.numbers" 634), (.str "/claim/cut.py" 635), (.int 188 0), (.int 1 0), (.int 0 0), (.int 0 0), (.int 3 0), (.ref 349), (.bool Bool.true), (.int 181 0), (.ref 350), Value.none, (.ref 351), (.ref 352), (.ref 353), (.int 637 0), (.int 188 0), (.str "/claim/cut.py" 638)]) #[])
noncomputable def o362 (P : Params) : Obj := (Obj.mk (.type "function") none (Data.func (FuncData.mk "numbers" "Shelf.numbers" (md 21 3).1 (FuncBody.stmts (md 21 3).2.1) (md 21 3).2.2 3 [] Value.none Value.none Value.none (.str "paperhold.objects" 371) none (.ref 354) Value.none 0)) #[])
noncomputable def o363 (P : Params) : Obj := (Obj.mk (.type "tuple") none (Data.seq #[] 0) #[])
noncomputable def o364 (P : Params) : Obj := (Obj.mk Value.none none (Data.fields #[]) #[])
noncomputable def o365 (P : Params) : Obj := (Obj.mk (.type "tuple") none (Data.seq #[(.str "self" 643), (.str "found" 644)] 0) #[])
noncomputable def o366 (P : Params) : Obj := (Obj.mk (.type "tuple") none (Data.seq #[] 0) #[])
noncomputable def o367 (P : Params) : Obj := (Obj.mk Value.none none (Data.func (FuncData.mk "root" "Shelf.root" (md 21 4).1 (FuncBody.stmts (md 21 4).2.1) (md 21 4).2.2 0 [] Value.none Value.none Value.none Value.none none Value.none Value.none 0)) #[])
noncomputable def o368 (P : Params) : Obj := (Obj.mk (.type "code") none (Data.fields #[(.str "root" 640), (.str "Shelf.root" 641), (.str "/claim/cut.py" 642), (.int 191 0), (.int 1 0), (.int 0 0), (.int 0 0), (.int 3 0), (.ref 356), (.bool Bool.true), (.int 181 0), (.ref 357), Value.none, (.ref 358), (.ref 359), (.ref 360), (.int 645 0), (.int 191 0), (.str "/claim/cut.py" 646)]) #[])
noncomputable def o369 (P : Params) : Obj := (Obj.mk (.type "function") none (Data.func (FuncData.mk "root" "Shelf.root" (md 21 4).1 (FuncBody.stmts (md 21 4).2.1) (md 21 4).2.2 3 [] Value.none Value.none Value.none (.str "paperhold.objects" 371) none (.ref 361) Value.none 0)) #[])
noncomputable def o370 (P : Params) : Obj := (Obj.mk (.type "tuple") none (Data.seq #[] 0) #[])
noncomputable def o371 (P : Params) : Obj := (Obj.mk Value.none none (Data.fields #[]) #[])
noncomputable def o372 (P : Params) : Obj := (Obj.mk Value.none none (Data.func (FuncData.mk "told" "Shelf.told" (md 21 5).1 (FuncBody.stmts (md 21 5).2.1) (md 21 5).2.2 0 [] Value.none Value.none Value.none Value.none none Value.none Value.none 0)) #[])
noncomputable def o373 (P : Params) : Obj := (Obj.mk (.type "code") none (Data.fields #[(.str "told" 648), (.str "Shelf.told" 649), (.str "/claim/cut.py" 650), (.int 195 0), (.int 1 0), (.int 0 0), (.int 0 0), (.int 3 0), (.ref 363), (.bool Bool.true), (.int 181 0), (.ref 364), Value.none, Value.none, Value.none, (.ref 365), (.int 651 0), (.int 195 0), (.str "/claim/cut.py" 652)]) #[])
noncomputable def o374 (P : Params) : Obj := (Obj.mk (.type "function") none (Data.func (FuncData.mk "told" "Shelf.told" (md 21 5).1 (FuncBody.stmts (md 21 5).2.1) (md 21 5).2.2 3 [] Value.none Value.none Value.none (.str "paperhold.objects" 371) none (.ref 366) Value.none 0)) #[])
noncomputable def o375 (P : Params) : Obj := (Obj.mk (.type "tuple") none (Data.seq #[] 0) #[])
noncomputable def o376 (P : Params) : Obj := (Obj.mk (.type "dict") none (Data.dict #[(DictEntry.mk (keyHash P "__module__") (.str "__module__" 602) (.str "paperhold.objects" 371)), (DictEntry.mk (keyHash P "__firstlineno__") (.str "__firstlineno__" 606) (.int 177 605)), (DictEntry.mk (keyHash P "put") (.str "put" 616) (.ref 334)), (DictEntry.mk (keyHash P "add") (.str "add" 624) (.ref 341)), (DictEntry.mk (keyHash P "drop") (.str "drop" 632) (.ref 348)), (DictEntry.mk (keyHash P "numbers") (.str "numbers" 639) (.ref 355)), (DictEntry.mk (keyHash P "root") (.str "root" 647) (.ref 362)), (DictEntry.mk (keyHash P "told") (.str "told" 653) (.ref 367)), (DictEntry.mk (keyHash P "__static_attributes__") (.str "__static_attributes__" 654) (.ref 368)), (DictEntry.mk (keyHash P "__doc__") (.str "__doc__" 655) Value.none)] 2) #[])
noncomputable def o377 (P : Params) : Obj := (Obj.mk (.type "type") none (Data.cls (ClassData.mk "Shelf" [(.ref 316)] [(.ref 370), (.ref 316), (.type "object")] 369 "Shelf" Bool.true [] [] Bool.false none Bool.false)) #[(some (.ref 321)), none, (some (.str "Shelf" 595)), (some (.str "Shelf" 603)), (some (.builtin "object.__new__")), (some (.bool Bool.true))])
noncomputable def o378 (P : Params) : Obj := (Obj.mk (.type "super") none (Data.fields #[(.ref 370), (.ref 370), (.ref 370)]) #[])
noncomputable def o379 (P : Params) : Obj := (Obj.mk (.type "builtin_function_or_method") none (Data.fields #[(.builtin "object.__init_subclass__"), (.ref 370)]) #[])
noncomputable def tr_g7 (P : Params) : BT := (BT.node (boot_o_0 P) (BT.node (boot_o_1 P) (BT.node (o325 P) (BT.node (boot_o_7 P) (BT.node (o7 P) (BT.node (o23 P) (BT.node (o57 P) (BT.node (o121 P) (BT.node (o257 P) BT.nil BT.nil) BT.nil) (BT.node (o189 P) (BT.node (o323 P) BT.nil BT.nil) BT.nil)) (BT.node (o89 P) (BT.node (o155 P) (BT.node (o291 P) BT.nil BT.nil) BT.nil) (BT.node (o223 P) (BT.node (o358 P) BT.nil BT.nil) BT.nil))) (BT.node (o39 P) (BT.node (o73 P) (BT.node (o137 P) (BT.node (o273 P) BT.nil BT.nil) BT.nil) (BT.node (o207 P) (BT.node (o342 P) BT.nil BT.nil) BT.nil)) (BT.node (o105 P) (BT.node (o171 P) (BT.node (o307 P) BT.nil BT.nil) BT.nil) (BT.node (o241 P) (BT.node (o374 P) BT.nil BT.nil) BT.nil)))) (BT.node (o15 P) (BT.node (o31 P) (BT.node (o65 P) (BT.node (o129 P) (BT.node (o265 P) BT.nil BT.nil) BT.nil) (BT.node (o197 P) (BT.node (o334 P) BT.nil BT.nil) BT.nil)) (BT.node (o97 P) (BT.node (o163 P) (BT.node (o299 P) BT.nil BT.nil) BT.nil) (BT.node (o233 P) (BT.node (o366 P) BT.nil BT.nil) BT.nil))) (BT.node (o47 P) (BT.node (o81 P) (BT.node (o145 P) (BT.node (o283 P) BT.nil BT.nil) BT.nil) (BT.node (o215 P) (BT.node (o350 P) BT.nil BT.nil) BT.nil)) (BT.node (o113 P) (BT.node (o181 P) (BT.node (o315 P) BT.nil BT.nil) BT.nil) (BT.node (o249 P) BT.nil BT.nil))))) (BT.node (o0 P) (BT.node (o11 P) (BT.node (o27 P) (BT.node (o61 P) (BT.node (o125 P) (BT.node (o261 P) BT.nil BT.nil) BT.nil) (BT.node (o193 P) (BT.node (o330 P) BT.nil BT.nil) BT.nil)) (BT.node (o93 P) (BT.node (o159 P) (BT.node (o295 P) BT.nil BT.nil) BT.nil) (BT.node (o229 P) (BT.node (o362 P) BT.nil BT.nil) BT.nil))) (BT.node (o43 P) (BT.node (o77 P) (BT.node (o141 P) (BT.node (o277 P) BT.nil BT.nil) BT.nil) (BT.node (o211 P) (BT.node (o346 P) BT.nil BT.nil) BT.nil)) (BT.node (o109 P) (BT.node (o175 P) (BT.node (o311 P) BT.nil BT.nil) BT.nil) (BT.node (o245 P) (BT.node (o378 P) BT.nil BT.nil) BT.nil)))) (BT.node (o19 P) (BT.node (o35 P) (BT.node (o69 P) (BT.node (o133 P) (BT.node (o269 P) BT.nil BT.nil) BT.nil) (BT.node (o201 P) (BT.node (o338 P) BT.nil BT.nil) BT.nil)) (BT.node (o101 P) (BT.node (o167 P) (BT.node (o303 P) BT.nil BT.nil) BT.nil) (BT.node (o237 P) (BT.node (o370 P) BT.nil BT.nil) BT.nil))) (BT.node (o53 P) (BT.node (o85 P) (BT.node (o151 P) (BT.node (o287 P) BT.nil BT.nil) BT.nil) (BT.node (o219 P) (BT.node (o354 P) BT.nil BT.nil) BT.nil)) (BT.node (o117 P) (BT.node (o185 P) (BT.node (o319 P) BT.nil BT.nil) BT.nil) (BT.node (o253 P) BT.nil BT.nil)))))) (BT.node (boot_o_5 P) (BT.node (boot_o_9 P) (BT.node (o9 P) (BT.node (o25 P) (BT.node (o59 P) (BT.node (o123 P) (BT.node (o259 P) BT.nil BT.nil) BT.nil) (BT.node (o191 P) (BT.node (o328 P) BT.nil BT.nil) BT.nil)) (BT.node (o91 P) (BT.node (o157 P) (BT.node (o293 P) BT.nil BT.nil) BT.nil) (BT.node (o225 P) (BT.node (o360 P) BT.nil BT.nil) BT.nil))) (BT.node (o41 P) (BT.node (o75 P) (BT.node (o139 P) (BT.node (o275 P) BT.nil BT.nil) BT.nil) (BT.node (o209 P) (BT.node (o344 P) BT.nil BT.nil) BT.nil)) (BT.node (o107 P) (BT.node (o173 P) (BT.node (o309 P) BT.nil BT.nil) BT.nil) (BT.node (o243 P) (BT.node (o376 P) BT.nil BT.nil) BT.nil)))) (BT.node (o17 P) (BT.node (o33 P) (BT.node (o67 P) (BT.node (o131 P) (BT.node (o267 P) BT.nil BT.nil) BT.nil) (BT.node (o199 P) (BT.node (o336 P) BT.nil BT.nil) BT.nil)) (BT.node (o99 P) (BT.node (o165 P) (BT.node (o301 P) BT.nil BT.nil) BT.nil) (BT.node (o235 P) (BT.node (o368 P) BT.nil BT.nil) BT.nil))) (BT.node (o51 P) (BT.node (o83 P) (BT.node (o147 P) (BT.node (o285 P) BT.nil BT.nil) BT.nil) (BT.node (o217 P) (BT.node (o352 P) BT.nil BT.nil) BT.nil)) (BT.node (o115 P) (BT.node (o183 P) (BT.node (o317 P) BT.nil BT.nil) BT.nil) (BT.node (o251 P) BT.nil BT.nil))))) (BT.node (o2 P) (BT.node (o13 P) (BT.node (o29 P) (BT.node (o63 P) (BT.node (o127 P) (BT.node (o263 P) BT.nil BT.nil) BT.nil) (BT.node (o195 P) (BT.node (o332 P) BT.nil BT.nil) BT.nil)) (BT.node (o95 P) (BT.node (o161 P) (BT.node (o297 P) BT.nil BT.nil) BT.nil) (BT.node (o231 P) (BT.node (o364 P) BT.nil BT.nil) BT.nil))) (BT.node (o45 P) (BT.node (o79 P) (BT.node (o143 P) (BT.node (o279 P) BT.nil BT.nil) BT.nil) (BT.node (o213 P) (BT.node (o348 P) BT.nil BT.nil) BT.nil)) (BT.node (o111 P) (BT.node (o177 P) (BT.node (o313 P) BT.nil BT.nil) BT.nil) (BT.node (o247 P) BT.nil BT.nil)))) (BT.node (o21 P) (BT.node (o37 P) (BT.node (o71 P) (BT.node (o135 P) (BT.node (o271 P) BT.nil BT.nil) BT.nil) (BT.node (o205 P) (BT.node (o340 P) BT.nil BT.nil) BT.nil)) (BT.node (o103 P) (BT.node (o169 P) (BT.node (o305 P) BT.nil BT.nil) BT.nil) (BT.node (o239 P) (BT.node (o372 P) BT.nil BT.nil) BT.nil))) (BT.node (o55 P) (BT.node (o87 P) (BT.node (o153 P) (BT.node (o289 P) BT.nil BT.nil) BT.nil) (BT.node (o221 P) (BT.node (o356 P) BT.nil BT.nil) BT.nil)) (BT.node (o119 P) (BT.node (o187 P) (BT.node (o321 P) BT.nil BT.nil) BT.nil) (BT.node (o255 P) BT.nil BT.nil))))))) (BT.node (o4 P) (BT.node (boot_o_4 P) (BT.node (boot_o_8 P) (BT.node (o8 P) (BT.node (o24 P) (BT.node (o58 P) (BT.node (o122 P) (BT.node (o258 P) BT.nil BT.nil) BT.nil) (BT.node (o190 P) (BT.node (o324 P) BT.nil BT.nil) BT.nil)) (BT.node (o90 P) (BT.node (o156 P) (BT.node (o292 P) BT.nil BT.nil) BT.nil) (BT.node (o224 P) (BT.node (o359 P) BT.nil BT.nil) BT.nil))) (BT.node (o40 P) (BT.node (o74 P) (BT.node (o138 P) (BT.node (o274 P) BT.nil BT.nil) BT.nil) (BT.node (o208 P) (BT.node (o343 P) BT.nil BT.nil) BT.nil)) (BT.node (o106 P) (BT.node (o172 P) (BT.node (o308 P) BT.nil BT.nil) BT.nil) (BT.node (o242 P) (BT.node (o375 P) BT.nil BT.nil) BT.nil)))) (BT.node (o16 P) (BT.node (o32 P) (BT.node (o66 P) (BT.node (o130 P) (BT.node (o266 P) BT.nil BT.nil) BT.nil) (BT.node (o198 P) (BT.node (o335 P) BT.nil BT.nil) BT.nil)) (BT.node (o98 P) (BT.node (o164 P) (BT.node (o300 P) BT.nil BT.nil) BT.nil) (BT.node (o234 P) (BT.node (o367 P) BT.nil BT.nil) BT.nil))) (BT.node (o48 P) (BT.node (o82 P) (BT.node (o146 P) (BT.node (o284 P) BT.nil BT.nil) BT.nil) (BT.node (o216 P) (BT.node (o351 P) BT.nil BT.nil) BT.nil)) (BT.node (o114 P) (BT.node (o182 P) (BT.node (o316 P) BT.nil BT.nil) BT.nil) (BT.node (o250 P) BT.nil BT.nil))))) (BT.node (o326 P) (BT.node (o12 P) (BT.node (o28 P) (BT.node (o62 P) (BT.node (o126 P) (BT.node (o262 P) BT.nil BT.nil) BT.nil) (BT.node (o194 P) (BT.node (o331 P) BT.nil BT.nil) BT.nil)) (BT.node (o94 P) (BT.node (o160 P) (BT.node (o296 P) BT.nil BT.nil) BT.nil) (BT.node (o230 P) (BT.node (o363 P) BT.nil BT.nil) BT.nil))) (BT.node (o44 P) (BT.node (o78 P) (BT.node (o142 P) (BT.node (o278 P) BT.nil BT.nil) BT.nil) (BT.node (o212 P) (BT.node (o347 P) BT.nil BT.nil) BT.nil)) (BT.node (o110 P) (BT.node (o176 P) (BT.node (o312 P) BT.nil BT.nil) BT.nil) (BT.node (o246 P) (BT.node (o379 P) BT.nil BT.nil) BT.nil)))) (BT.node (o20 P) (BT.node (o36 P) (BT.node (o70 P) (BT.node (o134 P) (BT.node (o270 P) BT.nil BT.nil) BT.nil) (BT.node (o202 P) (BT.node (o339 P) BT.nil BT.nil) BT.nil)) (BT.node (o102 P) (BT.node (o168 P) (BT.node (o304 P) BT.nil BT.nil) BT.nil) (BT.node (o238 P) (BT.node (o371 P) BT.nil BT.nil) BT.nil))) (BT.node (o54 P) (BT.node (o86 P) (BT.node (o152 P) (BT.node (o288 P) BT.nil BT.nil) BT.nil) (BT.node (o220 P) (BT.node (o355 P) BT.nil BT.nil) BT.nil)) (BT.node (o118 P) (BT.node (o186 P) (BT.node (o327 P) BT.nil BT.nil) BT.nil) (BT.node (o254 P) BT.nil BT.nil)))))) (BT.node (boot_o_6 P) (BT.node (boot_o_10 P) (BT.node (o10 P) (BT.node (o26 P) (BT.node (o60 P) (BT.node (o124 P) (BT.node (o260 P) BT.nil BT.nil) BT.nil) (BT.node (o192 P) (BT.node (o329 P) BT.nil BT.nil) BT.nil)) (BT.node (o92 P) (BT.node (o158 P) (BT.node (o294 P) BT.nil BT.nil) BT.nil) (BT.node (o228 P) (BT.node (o361 P) BT.nil BT.nil) BT.nil))) (BT.node (o42 P) (BT.node (o76 P) (BT.node (o140 P) (BT.node (o276 P) BT.nil BT.nil) BT.nil) (BT.node (o210 P) (BT.node (o345 P) BT.nil BT.nil) BT.nil)) (BT.node (o108 P) (BT.node (o174 P) (BT.node (o310 P) BT.nil BT.nil) BT.nil) (BT.node (o244 P) (BT.node (o377 P) BT.nil BT.nil) BT.nil)))) (BT.node (o18 P) (BT.node (o34 P) (BT.node (o68 P) (BT.node (o132 P) (BT.node (o268 P) BT.nil BT.nil) BT.nil) (BT.node (o200 P) (BT.node (o337 P) BT.nil BT.nil) BT.nil)) (BT.node (o100 P) (BT.node (o166 P) (BT.node (o302 P) BT.nil BT.nil) BT.nil) (BT.node (o236 P) (BT.node (o369 P) BT.nil BT.nil) BT.nil))) (BT.node (o52 P) (BT.node (o84 P) (BT.node (o148 P) (BT.node (o286 P) BT.nil BT.nil) BT.nil) (BT.node (o218 P) (BT.node (o353 P) BT.nil BT.nil) BT.nil)) (BT.node (o116 P) (BT.node (o184 P) (BT.node (o318 P) BT.nil BT.nil) BT.nil) (BT.node (o252 P) BT.nil BT.nil))))) (BT.node (o3 P) (BT.node (o14 P) (BT.node (o30 P) (BT.node (o64 P) (BT.node (o128 P) (BT.node (o264 P) BT.nil BT.nil) BT.nil) (BT.node (o196 P) (BT.node (o333 P) BT.nil BT.nil) BT.nil)) (BT.node (o96 P) (BT.node (o162 P) (BT.node (o298 P) BT.nil BT.nil) BT.nil) (BT.node (o232 P) (BT.node (o365 P) BT.nil BT.nil) BT.nil))) (BT.node (o46 P) (BT.node (o80 P) (BT.node (o144 P) (BT.node (o282 P) BT.nil BT.nil) BT.nil) (BT.node (o214 P) (BT.node (o349 P) BT.nil BT.nil) BT.nil)) (BT.node (o112 P) (BT.node (o178 P) (BT.node (o314 P) BT.nil BT.nil) BT.nil) (BT.node (o248 P) BT.nil BT.nil)))) (BT.node (o22 P) (BT.node (o38 P) (BT.node (o72 P) (BT.node (o136 P) (BT.node (o272 P) BT.nil BT.nil) BT.nil) (BT.node (o206 P) (BT.node (o341 P) BT.nil BT.nil) BT.nil)) (BT.node (o104 P) (BT.node (o170 P) (BT.node (o306 P) BT.nil BT.nil) BT.nil) (BT.node (o240 P) (BT.node (o373 P) BT.nil BT.nil) BT.nil))) (BT.node (o56 P) (BT.node (o88 P) (BT.node (o154 P) (BT.node (o290 P) BT.nil BT.nil) BT.nil) (BT.node (o222 P) (BT.node (o357 P) BT.nil BT.nil) BT.nil)) (BT.node (o120 P) (BT.node (o188 P) (BT.node (o322 P) BT.nil BT.nil) BT.nil) (BT.node (o256 P) BT.nil BT.nil))))))))
noncomputable def o380 (P : Params) : Obj := (Obj.mk (.type "dict") none (Data.dict #[(DictEntry.mk (keyHash P "__name__") (.str "__name__" 165) (.str "paperhold.checker" 658)), (DictEntry.mk (keyHash P "__doc__") (.str "__doc__" 166) Value.none), (DictEntry.mk (keyHash P "__package__") (.str "__package__" 167) Value.none), (DictEntry.mk (keyHash P "__loader__") (.str "__loader__" 168) (.builtin "__main__.__loader__#opaque")), (DictEntry.mk (keyHash P "__spec__") (.str "__spec__" 169) Value.none), (DictEntry.mk (keyHash P "__annotations__") (.str "__annotations__" 170) (.ref 6)), (DictEntry.mk (keyHash P "__builtins__") (.str "__builtins__" 171) (.ref 4)), (DictEntry.mk (keyHash P "__file__") (.str "__file__" 173) (.str "/claim/cut.py" 172)), (DictEntry.mk (keyHash P "__cached__") (.str "__cached__" 174) Value.none), (DictEntry.mk (keyHash P "_wall") (.str "_wall" 193) (.ref 21)), (DictEntry.mk (keyHash P "is_there") (.str "is_there" 205) (.ref 28)), (DictEntry.mk (keyHash P "PaperError") (.str "PaperError" 247) (.ref 53)), (DictEntry.mk (keyHash P "Decimal") (.str "Decimal" 363) (.ref 150)), (DictEntry.mk (keyHash P "sign_text") (.str "sign_text" 370) (.ref 161)), (DictEntry.mk (keyHash P "MOST_HOPS") (.str "MOST_HOPS" 374) (.int 30 373)), (DictEntry.mk (keyHash P "Name") (.str "Name" 403) (.ref 178)), (DictEntry.mk (keyHash P "String") (.str "String" 434) (.ref 200)), (DictEntry.mk (keyHash P "Stream") (.str "Stream" 465) (.ref 221)), (DictEntry.mk (keyHash P "Reference") (.str "Reference" 503) (.ref 249)), (DictEntry.mk (keyHash P "kind_of") (.str "kind_of" 510) (.ref 260)), (DictEntry.mk (keyHash P "told_plain") (.str "told_plain" 518) (.ref 267)), (DictEntry.mk (keyHash P "told") (.str "told" 524) (.ref 272)), (DictEntry.mk (keyHash P "told_objects") (.str "told_objects" 525) (.ref 272)), (DictEntry.mk (keyHash P "parts_of") (.str "parts_of" 531) (.ref 277)), (DictEntry.mk (keyHash P "references_in") (.str "references_in" 542) (.ref 284)), (DictEntry.mk (keyHash P "Lookup") (.str "Lookup" 594) (.ref 316)), (DictEntry.mk (keyHash P "Shelf") (.str "Shelf" 657) (.ref 370)), (DictEntry.mk (keyHash P "BOXES") (.str "BOXES" 662) (.ref 373)), (DictEntry.mk (keyHash P "Finding") (.str "Finding" 702) (.ref 397)), (DictEntry.mk (keyHash P "check_root") (.str "check_root" 710) (.ref 408)), (DictEntry.mk (keyHash P "name_of") (.str "name_of" 717) (.ref 415)), (DictEntry.mk (keyHash P "check_references") (.str "check_references" 727) (.ref 422))] 32) #[])
noncomputable def o381 (P : Params) : Obj := (Obj.mk Value.none none (Data.fields #[(.int 1 0), (.int 0 0), (.ref 20), (.int 5 0), (.int 0 0), (.ref 27), (.int 9 0), (.int 0 0), (.ref 34), (.int 19 0), (.int 0 0), (.ref 62), (.int 64 0), (.int 0 0), (.ref 160), (.int 68 0), (.int 0 0), (.ref 167), (.int 72 0), (.int 0 0), (.ref 188), (.int 77 0), (.int 0 0), (.ref 210), (.int 82 0), (.int 0 0), (.ref 231), (.int 90 0), (.int 0 0), (.ref 259), (.int 112 0), (.int 0 0), (.ref 266), (.int 126 0), (.int 0 0), (.ref 271), (.int 136 0), (.int 0 0), (.ref 276), (.int 145 0), (.int 0 0), (.ref 283), (.int 158 0), (.int 0 0), (.ref 290), (.int 177 0), (.int 0 0), (.ref 326), (.int 200 0), (.int 0 0), (.ref 379), (.int 209 0), (.int 0 0), (.ref 407), (.int 216 0), (.int 0 0), (.ref 414), (.int 218 0), (.int 0 0), (.ref 421)]) #[])
noncomputable def o382 (P : Params) : Obj := (Obj.mk (.type "tuple") none (Data.seq #[(.str "MediaBox" 660), (.str "CropBox" 661)] 0) #[])
noncomputable def o383 (P : Params) : Obj := (Obj.mk (.type "tuple") none (Data.seq #[] 0) #[])
noncomputable def o384 (P : Params) : Obj := (Obj.mk (.type "builtin_function_or_method") none (Data.fields #[(.builtin "type.__prepare__"), (.type "type")]) #[])
noncomputable def o385 (P : Params) : Obj := (Obj.mk (.type "dict") none (Data.dict #[(DictEntry.mk (keyHash P "__module__") (.str "__module__" 670) (.str "paperhold.checker" 658)), (DictEntry.mk (keyHash P "__qualname__") (.str "__qualname__" 672) (.str "Finding" 671)), (DictEntry.mk (keyHash P "__firstlineno__") (.str "__firstlineno__" 674) (.int 200 673)), (DictEntry.mk (keyHash P "__init__") (.str "__init__" 684) (.ref 387)), (DictEntry.mk (keyHash P "told") (.str "told" 691) (.ref 394)), (DictEntry.mk (keyHash P "__static_attributes__") (.str "__static_attributes__" 695) (.ref 395))] 6) #[])
noncomputable def o386 (P : Params) : Obj := (Obj.mk (.type "tuple") none (Data.seq #[] 0) #[])
noncomputable def o387 (P : Params) : Obj := (Obj.mk Value.none none (Data.fields #[(.int 202 0), (.int 4 0), (.ref 386), (.int 207 0), (.int 4 0), (.ref 393)]) #[])
noncomputable def o388 (P : Params) : Obj := (Obj.mk (.type "code") none (Data.fields #[(.str "Finding" 665), (.str "Finding" 666), (.str "/claim/cut.py" 667), (.int 200 0), (.int 0 0), (.int 0 0), (.int 0 0), (.int 0 0), (.ref 377), (.bool Bool.false), (.int 181 0), (.ref 378), Value.none, Value.none, Value.none, Value.none, (.int 668 0), (.int 200 0), (.str "/claim/cut.py" 669)]) #[])
noncomputable def o389 (P : Params) : Obj := (Obj.mk (.type "frame") none Data.plain #[(some (.ref 379)), (some (.ref 3)), (some (.ref 376)), none, (some (.str "paperhold.checker" 658)), none, (some (.ref 0))])
noncomputable def o390 (P : Params) : Obj := (Obj.mk (.type "tuple") none (Data.seq #[] 0) #[])
noncomputable def o391 (P : Params) : Obj := (Obj.mk Value.none none (Data.fields #[]) #[])
noncomputable def o392 (P : Params) : Obj := (Obj.mk (.type "tuple") none (Data.seq #[(.str "self" 678), (.str "word" 679), (.str "place" 680), (.str "text" 681)] 0) #[])
noncomputable def o393 (P : Params) : Obj := (Obj.mk (.type "tuple") none (Data.seq #[] 0) #[])
noncomputable def o394 (P : Params) : Obj := (Obj.mk Value.none none (Data.func (FuncData.mk "__init__" "Finding.__init__" (md 24 0).1 (FuncBody.stmts (md 24 0).2.1) (md 24 0).2.2 0 [] Value.none Value.none Value.none Value.none none Value.none Value.none 0)) #[])
noncomputable def o395 (P : Params) : Obj := (Obj.mk (.type "code") none (Data.fields #[(.str "__init__" 675), (.str "Finding.__init__" 676), (.str "/claim/cut.py" 677), (.int 202 0), (.int 4 0), (.int 0 0), (.int 0 0), (.int 3 0), (.ref 381), (.bool Bool.true), (.int 181 0), (.ref 382), Value.none, (.ref 383), (.ref 384), (.ref 385), (.int 682 0), (.int 202 0), (.str "/claim/cut.py" 683)]) #[])
noncomputable def o396 (P : Params) : Obj := (Obj.mk (.type "function") none (Data.func (FuncData.mk "__init__" "Finding.__init__" (md 24 0).1 (FuncBody.stmts (md 24 0).2.1) (md 24 0).2.2 3 [] Value.none Value.none Value.none (.str "paperhold.checker" 658) none (.ref 386) Value.none 0)) #[])
noncomputable def o397 (P : Params) : Obj := (Obj.mk (.type "tuple") none (Data.seq #[] 0) #[])
noncomputable def o398 (P : Params) : Obj := (Obj.mk Value.none none (Data.fields #[]) #[])
noncomputable def o399 (P : Params) : Obj := (Obj.mk (.type "tuple") none (Data.seq #[(.str "self" 688)] 0) #[])
noncomputable def o400 (P : Params) : Obj := (Obj.mk (.type "tuple") none (Data.seq #[] 0) #[])
noncomputable def o401 (P : Params) : Obj := (Obj.mk Value.none none (Data.func (FuncData.mk "told" "Finding.told" (md 24 1).1 (FuncBody.stmts (md 24 1).2.1) (md 24 1).2.2 0 [] Value.none Value.none Value.none Value.none none Value.none Value.none 0)) #[])
noncomputable def o402 (P : Params) : Obj := (Obj.mk (.type "code") none (Data.fields #[(.str "told" 685), (.str "Finding.told" 686), (.str "/claim/cut.py" 687), (.int 207 0), (.int 1 0), (.int 0 0), (.int 0 0), (.int 3 0), (.ref 388), (.bool Bool.true), (.int 181 0), (.ref 389), Value.none, (.ref 390), (.ref 391), (.ref 392), (.int 689 0), (.int 207 0), (.str "/claim/cut.py" 690)]) #[])
noncomputable def o403 (P : Params) : Obj := (Obj.mk (.type "function") none (Data.func (FuncData.mk "told" "Finding.told" (md 24 1).1 (FuncBody.stmts (md 24 1).2.1) (md 24 1).2.2 3 [] Value.none Value.none Value.none (.str "paperhold.checker" 658) none (.ref 393) Value.none 0)) #[])
noncomputable def o404 (P : Params) : Obj := (Obj.mk (.type "tuple") none (Data.seq #[(.str "place" 692), (.str "text" 693), (.str "word" 694)] 0) #[])
noncomputable def o405 (P : Params) : Obj := (Obj.mk (.type "dict") none (Data.dict #[(DictEntry.mk (keyHash P "__module__") (.str "__module__" 670) (.str "paperhold.checker" 658)), (DictEntry.mk (keyHash P "__firstlineno__") (.str "__firstlineno__" 674) (.int 200 673)), (DictEntry.mk (keyHash P "__init__") (.str "__init__" 684) (.ref 387)), (DictEntry.mk (keyHash P "told") (.str "told" 691) (.ref 394)), (DictEntry.mk (keyHash P "__static_attributes__") (.str "__static_attributes__" 695) (.ref 395)), (DictEntry.mk (keyHash P "__dict__") (.str "__dict__" 697) (.ref 398)), (DictEntry.mk (keyHash P "__weakref__") (.str "__weakref__" 699) (.ref 399)), (DictEntry.mk (keyHash P "__doc__") (.str "__doc__" 700) Value.none)] 4) #[])
noncomputable def o406 (P : Params) : Obj := (Obj.mk (.type "type") none (Data.cls (ClassData.mk "Finding" [(.type "object")] [(.ref 397), (.type "object")] 396 "Finding" Bool.true [] [] Bool.false none Bool.false)) #[none, none, (some (.str "Finding" 663)), (some (.str "Finding" 671)), (some (.builtin "object.__new__")), (some (.bool Bool.true))])
noncomputable def o407 (P : Params) : Obj := (Obj.mk (.type "getset_descriptor") none (Data.fields #[(.str "__dict__" 696), (.ref 397), (.builtin "function.__dict__"), (.builtin "function.__dict__#set")]) #[])
noncomputable def o408 (P : Params) : Obj := (Obj.mk (.type "getset_descriptor") none (Data.fields #[(.str "__weakref__" 698), (.ref 397), (.builtin "ExceptionGroup.__weakref__"), Value.none]) #[])
noncomputable def o409 (P : Params) : Obj := (Obj.mk (.type "super") none (Data.fields #[(.ref 397), (.ref 397), (.ref 397)]) #[])
noncomputable def o410 (P : Params) : Obj := (Obj.mk (.type "builtin_function_or_method") none (Data.fields #[(.builtin "object.__init_subclass__"), (.ref 397)]) #[])
noncomputable def o411 (P : Params) : Obj := (Obj.mk (.type "tuple") none (Data.seq #[] 0) #[])
noncomputable def o412 (P : Params) : Obj := (Obj.mk Value.none none (Data.fields #[]) #[])
noncomputable def o413 (P : Params) : Obj := (Obj.mk (.type "tuple") none (Data.seq #[(.str "shelf" 706), (.str "root" 707)] 0) #[])
noncomputable def o414 (P : Params) : Obj := (Obj.mk (.type "tuple") none (Data.seq #[] 0) #[])
noncomputable def o415 (P : Params) : Obj := (Obj.mk Value.none none (Data.func (FuncData.mk "check_root" "check_root" (fd 25).1 (FuncBody.stmts (fd 25).2.1) (fd 25).2.2 0 [] Value.none Value.none Value.none Value.none none Value.none Value.none 0)) #[])
noncomputable def o416 (P : Params) : Obj := (Obj.mk (.type "code") none (Data.fields #[(.str "check_root" 703), (.str "check_root" 704), (.str "/claim/cut.py" 705), (.int 209 0), (.int 1 0), (.int 0 0), (.int 0 0), (.int 3 0), (.ref 402), (.bool Bool.true), (.int 181 0), (.ref 403), Value.none, (.ref 404), (.ref 405), (.ref 406), (.int 708 0), (.int 209 0), (.str "/claim/cut.py" 709)]) #[])
noncomputable def o417 (P : Params) : Obj := (Obj.mk (.type "function") none (Data.func (FuncData.mk "check_root" "check_root" (fd 25).1 (FuncBody.stmts (fd 25).2.1) (fd 25).2.2 3 [] Value.none Value.none Value.none (.str "paperhold.checker" 658) none (.ref 407) Value.none 0)) #[])
noncomputable def o418 (P : Params) : Obj := (Obj.mk (.type "tuple") none (Data.seq #[] 0) #[])
noncomputable def o419 (P : Params) : Obj := (Obj.mk Value.none none (Data.fields #[]) #[])
noncomputable def o420 (P : Params) : Obj := (Obj.mk (.type "tuple") none (Data.seq #[(.str "value" 714)] 0) #[])
noncomputable def o421 (P : Params) : Obj := (Obj.mk (.type "tuple") none (Data.seq #[] 0) #[])
noncomputable def o422 (P : Params) : Obj := (Obj.mk Value.none none (Data.func (FuncData.mk "name_of" "name_of" (fd 26).1 (FuncBody.stmts (fd 26).2.1) (fd 26).2.2 0 [] Value.none Value.none Value.none Value.none none Value.none Value.none 0)) #[])
noncomputable def o423 (P : Params) : Obj := (Obj.mk (.type "code") none (Data.fields #[(.str "name_of" 711), (.str "name_of" 712), (.str "/claim/cut.py" 713), (.int 216 0), (.int 1 0), (.int 0 0), (.int 0 0), (.int 3 0), (.ref 409), (.bool Bool.true), (.int 181 0), (.ref 410), Value.none, (.ref 411), (.ref 412), (.ref 413), (.int 715 0), (.int 216 0), (.str "/claim/cut.py" 716)]) #[])
noncomputable def o424 (P : Params) : Obj := (Obj.mk (.type "function") none (Data.func (FuncData.mk "name_of" "name_of" (fd 26).1 (FuncBody.stmts (fd 26).2.1) (fd 26).2.2 3 [] Value.none Value.none Value.none (.str "paperhold.checker" 658) none (.ref 414) Value.none 0)) #[])
noncomputable def o425 (P : Params) : Obj := (Obj.mk (.type "tuple") none (Data.seq #[] 0) #[])
noncomputable def o426 (P : Params) : Obj := (Obj.mk Value.none none (Data.fields #[]) #[])
noncomputable def o427 (P : Params) : Obj := (Obj.mk (.type "tuple") none (Data.seq #[(.str "shelf" 721), (.str "found" 722), (.str "number" 723), (.str "pair" 724)] 0) #[])
noncomputable def o428 (P : Params) : Obj := (Obj.mk (.type "tuple") none (Data.seq #[] 0) #[])
noncomputable def o429 (P : Params) : Obj := (Obj.mk Value.none none (Data.func (FuncData.mk "check_references" "check_references" (fd 27).1 (FuncBody.stmts (fd 27).2.1) (fd 27).2.2 0 [] Value.none Value.none Value.none Value.none none Value.none Value.none 0)) #[])
noncomputable def o430 (P : Params) : Obj := (Obj.mk (.type "code") none (Data.fields #[(.str "check_references" 718), (.str "check_references" 719), (.str "/claim/cut.py" 720), (.int 218 0), (.int 1 0), (.int 0 0), (.int 0 0), (.int 3 0), (.ref 416), (.bool Bool.true), (.int 181 0), (.ref 417), Value.none, (.ref 418), (.ref 419), (.ref 420), (.int 725 0), (.int 218 0), (.str "/claim/cut.py" 726)]) #[])
noncomputable def o431 (P : Params) : Obj := (Obj.mk (.type "function") none (Data.func (FuncData.mk "check_references" "check_references" (fd 27).1 (FuncBody.stmts (fd 27).2.1) (fd 27).2.2 3 [] Value.none Value.none Value.none (.str "paperhold.checker" 658) none (.ref 421) Value.none 0)) #[])
noncomputable def tr_g8 (P : Params) : BT := (BT.node (boot_o_0 P) (BT.node (boot_o_1 P) (BT.node (o380 P) (BT.node (boot_o_7 P) (BT.node (o7 P) (BT.node (o23 P) (BT.node (o57 P) (BT.node (o121 P) (BT.node (o257 P) BT.nil BT.nil) (BT.node (o392 P) BT.nil BT.nil)) (BT.node (o189 P) (BT.node (o323 P) BT.nil BT.nil) BT.nil)) (BT.node (o89 P) (BT.node (o155 P) (BT.node (o291 P) BT.nil BT.nil) (BT.node (o424 P) BT.nil BT.nil)) (BT.node (o223 P) (BT.node (o358 P) BT.nil BT.nil) BT.nil))) (BT.node (o39 P) (BT.node (o73 P) (BT.node (o137 P) (BT.node (o273 P) BT.nil BT.nil) (BT.node (o408 P) BT.nil BT.nil)) (BT.node (o207 P) (BT.node (o342 P) BT.nil BT.nil) BT.nil)) (BT.node (o105 P) (BT.node (o171 P) (BT.node (o307 P) BT.nil BT.nil) BT.nil) (BT.node (o241 P) (BT.node (o374 P) BT.nil BT.nil) BT.nil)))) (BT.node (o15 P) (BT.node (o31 P) (BT.node (o65 P) (BT.node (o129 P) (BT.node (o265 P) BT.nil BT.nil) (BT.node (o400 P) BT.nil BT.nil)) (BT.node (o197 P) (BT.node (o334 P) BT.nil BT.nil) BT.nil)) (BT.node (o97 P) (BT.node (o163 P) (BT.node (o299 P) BT.nil BT.nil) BT.nil) (BT.node (o233 P) (BT.node (o366 P) BT.nil BT.nil) BT.nil))) (BT.node (o47 P) (BT.node (o81 P) (BT.node (o145 P) (BT.node (o283 P) BT.nil BT.nil) (BT.node (o416 P) BT.nil BT.nil)) (BT.node (o215 P) (BT.node (o350 P) BT.nil BT.nil) BT.nil)) (BT.node (o113 P) (BT.node (o181 P) (BT.node (o315 P) BT.nil BT.nil) BT.nil) (BT.node (o249 P) (BT.node (o384 P) BT.nil BT.nil) BT.nil))))) (BT.node (o0 P) (BT.node (o11 P) (BT.node (o27 P) (BT.node (o61 P) (BT.node (o125 P) (BT.node (o261 P) BT.nil BT.nil) (BT.node (o396 P) BT.nil BT.nil)) (BT.node (o193 P) (BT.node (o330 P) BT.nil BT.nil) BT.nil)) (BT.node (o93 P) (BT.node (o159 P) (BT.node (o295 P) BT.nil BT.nil) (BT.node (o428 P) BT.nil BT.nil)) (BT.node (o229 P) (BT.node (o362 P) BT.nil BT.nil) BT.nil))) (BT.node (o43 P) (BT.node (o77 P) (BT.node (o141 P) (BT.node (o277 P) BT.nil BT.nil) (BT.node (o412 P) BT.nil BT.nil)) (BT.node (o211 P) (BT.node (o346 P) BT.nil BT.nil) BT.nil)) (BT.node (o109 P) (BT.node (o175 P) (BT.node (o311 P) BT.nil BT.nil) BT.nil) (BT.node (o245 P) (BT.node (o378 P) BT.nil BT.nil) BT.nil)))) (BT.node (o19 P) (BT.node (o35 P) (BT.node (o69 P) (BT.node (o133 P) (BT.node (o269 P) BT.nil BT.nil) (BT.node (o404 P) BT.nil BT.nil)) (BT.node (o201 P) (BT.node (o338 P) BT.nil BT.nil) BT.nil)) (BT.node (o101 P) (BT.node (o167 P) (BT.node (o303 P) BT.nil BT.nil) BT.nil) (BT.node (o237 P) (BT.node (o370 P) BT.nil BT.nil) BT.nil))) (BT.node (o53 P) (BT.node (o85 P) (BT.node (o151 P) (BT.node (o287 P) BT.nil BT.nil) (BT.node (o420 P) BT.nil BT.nil)) (BT.node (o219 P) (BT.node (o354 P) BT.nil BT.nil) BT.nil)) (BT.node (o117 P) (BT.node (o185 P) (BT.node (o319 P) BT.nil BT.nil) BT.nil) (BT.node (o253 P) (BT.node (o388 P) BT.nil BT.nil) BT.nil)))))) (BT.node (boot_o_5 P) (BT.node (boot_o_9 P) (BT.node (o9 P) (BT.node (o25 P) (BT.node (o59 P) (BT.node (o123 P) (BT.node (o259 P) BT.nil BT.nil) (BT.node (o394 P) BT.nil BT.nil)) (BT.node (o191 P) (BT.node (o328 P) BT.nil BT.nil) BT.nil)) (BT.node (o91 P) (BT.node (o157 P) (BT.node (o293 P) BT.nil BT.nil) (BT.node (o426 P) BT.nil BT.nil)) (BT.node (o225 P) (BT.node (o360 P) BT.nil BT.nil) BT.nil))) (BT.node (o41 P) (BT.node (o75 P) (BT.node (o139 P) (BT.node (o275 P) BT.nil BT.nil) (BT.node (o410 P) BT.nil BT.nil)) (BT.node (o209 P) (BT.node (o344 P) BT.nil BT.nil) BT.nil)) (BT.node (o107 P) (BT.node (o173 P) (BT.node (o309 P) BT.nil BT.nil) BT.nil) (BT.node (o243 P) (BT.node (o376 P) BT.nil BT.nil) BT.nil)))) (BT.node (o17 P) (BT.node (o33 P) (BT.node (o67 P) (BT.node (o131 P) (BT.node (o267 P) BT.nil BT.nil) (BT.node (o402 P) BT.nil BT.nil)) (BT.node (o199 P) (BT.node (o336 P) BT.nil BT.nil) BT.nil)) (BT.node (o99 P) (BT.node (o165 P) (BT.node (o301 P) BT.nil BT.nil) BT.nil) (BT.node (o235 P) (BT.node (o368 P) BT.nil BT.nil) BT.nil))) (BT.node (o51 P) (BT.node (o83 P) (BT.node (o147 P) (BT.node (o285 P) BT.nil BT.nil) (BT.node (o418 P) BT.nil BT.nil)) (BT.node (o217 P) (BT.node (o352 P) BT.nil BT.nil) BT.nil)) (BT.node (o115 P) (BT.node (o183 P) (BT.node (o317 P) BT.nil BT.nil) BT.nil) (BT.node (o251 P) (BT.node (o386 P) BT.nil BT.nil) BT.nil))))) (BT.node (o2 P) (BT.node (o13 P) (BT.node (o29 P) (BT.node (o63 P) (BT.node (o127 P) (BT.node (o263 P) BT.nil BT.nil) (BT.node (o398 P) BT.nil BT.nil)) (BT.node (o195 P) (BT.node (o332 P) BT.nil BT.nil) BT.nil)) (BT.node (o95 P) (BT.node (o161 P) (BT.node (o297 P) BT.nil BT.nil) (BT.node (o430 P) BT.nil BT.nil)) (BT.node (o231 P) (BT.node (o364 P) BT.nil BT.nil) BT.nil))) (BT.node (o45 P) (BT.node (o79 P) (BT.node (o143 P) (BT.node (o279 P) BT.nil BT.nil) (BT.node (o414 P) BT.nil BT.nil)) (BT.node (o213 P) (BT.node (o348 P) BT.nil BT.nil) BT.nil)) (BT.node (o111 P) (BT.node (o177 P) (BT.node (o313 P) BT.nil BT.nil) BT.nil) (BT.node (o247 P) (BT.node (o382 P) BT.nil BT.nil) BT.nil)))) (BT.node (o21 P) (BT.node (o37 P) (BT.node (o71 P) (BT.node (o135 P) (BT.node (o271 P) BT.nil BT.nil) (BT.node (o406 P) BT.nil BT.nil)) (BT.node (o205 P) (BT.node (o340 P) BT.nil BT.nil) BT.nil)) (BT.node (o103 P) (BT.node (o169 P) (BT.node (o305 P) BT.nil BT.nil) BT.nil) (BT.node (o239 P) (BT.node (o372 P) BT.nil BT.nil) BT.nil))) (BT.node (o55 P) (BT.node (o87 P) (BT.node (o153 P) (BT.node (o289 P) BT.nil BT.nil) (BT.node (o422 P) BT.nil BT.nil)) (BT.node (o221 P) (BT.node (o356 P) BT.nil BT.nil) BT.nil)) (BT.node (o119 P) (BT.node (o187 P) (BT.node (o321 P) BT.nil BT.nil) BT.nil) (BT.node (o255 P) (BT.node (o390 P) BT.nil BT.nil) BT.nil))))))) (BT.node (o4 P) (BT.node (boot_o_4 P) (BT.node (boot_o_8 P) (BT.node (o8 P) (BT.node (o24 P) (BT.node (o58 P) (BT.node (o122 P) (BT.node (o258 P) BT.nil BT.nil) (BT.node (o393 P) BT.nil BT.nil)) (BT.node (o190 P) (BT.node (o324 P) BT.nil BT.nil) BT.nil)) (BT.node (o90 P) (BT.node (o156 P) (BT.node (o292 P) BT.nil BT.nil) (BT.node (o425 P) BT.nil BT.nil)) (BT.node (o224 P) (BT.node (o359 P) BT.nil BT.nil) BT.nil))) (BT.node (o40 P) (BT.node (o74 P) (BT.node (o138 P) (BT.node (o274 P) BT.nil BT.nil) (BT.node (o409 P) BT.nil BT.nil)) (BT.node (o208 P) (BT.node (o343 P) BT.nil BT.nil) BT.nil)) (BT.node (o106 P) (BT.node (o172 P) (BT.node (o308 P) BT.nil BT.nil) BT.nil) (BT.node (o242 P) (BT.node (o375 P) BT.nil BT.nil) BT.nil)))) (BT.node (o16 P) (BT.node (o32 P) (BT.node (o66 P) (BT.node (o130 P) (BT.node (o266 P) BT.nil BT.nil) (BT.node (o401 P) BT.nil BT.nil)) (BT.node (o198 P) (BT.node (o335 P) BT.nil BT.nil) BT.nil)) (BT.node (o98 P) (BT.node (o164 P) (BT.node (o300 P) BT.nil BT.nil) BT.nil) (BT.node (o234 P) (BT.node (o367 P) BT.nil BT.nil) BT.nil))) (BT.node (o48 P) (BT.node (o82 P) (BT.node (o146 P) (BT.node (o284 P) BT.nil BT.nil) (BT.node (o417 P) BT.nil BT.nil)) (BT.node (o216 P) (BT.node (o351 P) BT.nil BT.nil) BT.nil)) (BT.node (o114 P) (BT.node (o182 P) (BT.node (o316 P) BT.nil BT.nil) BT.nil) (BT.node (o250 P) (BT.node (o385 P) BT.nil BT.nil) BT.nil))))) (BT.node (o381 P) (BT.node (o12 P) (BT.node (o28 P) (BT.node (o62 P) (BT.node (o126 P) (BT.node (o262 P) BT.nil BT.nil) (BT.node (o397 P) BT.nil BT.nil)) (BT.node (o194 P) (BT.node (o331 P) BT.nil BT.nil) BT.nil)) (BT.node (o94 P) (BT.node (o160 P) (BT.node (o296 P) BT.nil BT.nil) (BT.node (o429 P) BT.nil BT.nil)) (BT.node (o230 P) (BT.node (o363 P) BT.nil BT.nil) BT.nil))) (BT.node (o44 P) (BT.node (o78 P) (BT.node (o142 P) (BT.node (o278 P) BT.nil BT.nil) (BT.node (o413 P) BT.nil BT.nil)) (BT.node (o212 P) (BT.node (o347 P) BT.nil BT.nil) BT.nil)) (BT.node (o110 P) (BT.node (o176 P) (BT.node (o312 P) BT.nil BT.nil) BT.nil) (BT.node (o246 P) (BT.node (o379 P) BT.nil BT.nil) BT.nil)))) (BT.node (o20 P) (BT.node (o36 P) (BT.node (o70 P) (BT.node (o134 P) (BT.node (o270 P) BT.nil BT.nil) (BT.node (o405 P) BT.nil BT.nil)) (BT.node (o202 P) (BT.node (o339 P) BT.nil BT.nil) BT.nil)) (BT.node (o102 P) (BT.node (o168 P) (BT.node (o304 P) BT.nil BT.nil) BT.nil) (BT.node (o238 P) (BT.node (o371 P) BT.nil BT.nil) BT.nil))) (BT.node (o54 P) (BT.node (o86 P) (BT.node (o152 P) (BT.node (o288 P) BT.nil BT.nil) (BT.node (o421 P) BT.nil BT.nil)) (BT.node (o220 P) (BT.node (o355 P) BT.nil BT.nil) BT.nil)) (BT.node (o118 P) (BT.node (o186 P) (BT.node (o327 P) BT.nil BT.nil) BT.nil) (BT.node (o254 P) (BT.node (o389 P) BT.nil BT.nil) BT.nil)))))) (BT.node (boot_o_6 P) (BT.node (boot_o_10 P) (BT.node (o10 P) (BT.node (o26 P) (BT.node (o60 P) (BT.node (o124 P) (BT.node (o260 P) BT.nil BT.nil) (BT.node (o395 P) BT.nil BT.nil)) (BT.node (o192 P) (BT.node (o329 P) BT.nil BT.nil) BT.nil)) (BT.node (o92 P) (BT.node (o158 P) (BT.node (o294 P) BT.nil BT.nil) (BT.node (o427 P) BT.nil BT.nil)) (BT.node (o228 P) (BT.node (o361 P) BT.nil BT.nil) BT.nil))) (BT.node (o42 P) (BT.node (o76 P) (BT.node (o140 P) (BT.node (o276 P) BT.nil BT.nil) (BT.node (o411 P) BT.nil BT.nil)) (BT.node (o210 P) (BT.node (o345 P) BT.nil BT.nil) BT.nil)) (BT.node (o108 P) (BT.node (o174 P) (BT.node (o310 P) BT.nil BT.nil) BT.nil) (BT.node (o244 P) (BT.node (o377 P) BT.nil BT.nil) BT.nil)))) (BT.node (o18 P) (BT.node (o34 P) (BT.node (o68 P) (BT.node (o132 P) (BT.node (o268 P) BT.nil BT.nil) (BT.node (o403 P) BT.nil BT.nil)) (BT.node (o200 P) (BT.node (o337 P) BT.nil BT.nil) BT.nil)) (BT.node (o100 P) (BT.node (o166 P) (BT.node (o302 P) BT.nil BT.nil) BT.nil) (BT.node (o236 P) (BT.node (o369 P) BT.nil BT.nil) BT.nil))) (BT.node (o52 P) (BT.node (o84 P) (BT.node (o148 P) (BT.node (o286 P) BT.nil BT.nil) (BT.node (o419 P) BT.nil BT.nil)) (BT.node (o218 P) (BT.node (o353 P) BT.nil BT.nil) BT.nil)) (BT.node (o116 P) (BT.node (o184 P) (BT.node (o318 P) BT.nil BT.nil) BT.nil) (BT.node (o252 P) (BT.node (o387 P) BT.nil BT.nil) BT.nil))))) (BT.node (o3 P) (BT.node (o14 P) (BT.node (o30 P) (BT.node (o64 P) (BT.node (o128 P) (BT.node (o264 P) BT.nil BT.nil) (BT.node (o399 P) BT.nil BT.nil)) (BT.node (o196 P) (BT.node (o333 P) BT.nil BT.nil) BT.nil)) (BT.node (o96 P) (BT.node (o162 P) (BT.node (o298 P) BT.nil BT.nil) (BT.node (o431 P) BT.nil BT.nil)) (BT.node (o232 P) (BT.node (o365 P) BT.nil BT.nil) BT.nil))) (BT.node (o46 P) (BT.node (o80 P) (BT.node (o144 P) (BT.node (o282 P) BT.nil BT.nil) (BT.node (o415 P) BT.nil BT.nil)) (BT.node (o214 P) (BT.node (o349 P) BT.nil BT.nil) BT.nil)) (BT.node (o112 P) (BT.node (o178 P) (BT.node (o314 P) BT.nil BT.nil) BT.nil) (BT.node (o248 P) (BT.node (o383 P) BT.nil BT.nil) BT.nil)))) (BT.node (o22 P) (BT.node (o38 P) (BT.node (o72 P) (BT.node (o136 P) (BT.node (o272 P) BT.nil BT.nil) (BT.node (o407 P) BT.nil BT.nil)) (BT.node (o206 P) (BT.node (o341 P) BT.nil BT.nil) BT.nil)) (BT.node (o104 P) (BT.node (o170 P) (BT.node (o306 P) BT.nil BT.nil) BT.nil) (BT.node (o240 P) (BT.node (o373 P) BT.nil BT.nil) BT.nil))) (BT.node (o56 P) (BT.node (o88 P) (BT.node (o154 P) (BT.node (o290 P) BT.nil BT.nil) (BT.node (o423 P) BT.nil BT.nil)) (BT.node (o222 P) (BT.node (o357 P) BT.nil BT.nil) BT.nil)) (BT.node (o120 P) (BT.node (o188 P) (BT.node (o322 P) BT.nil BT.nil) BT.nil) (BT.node (o256 P) (BT.node (o391 P) BT.nil BT.nil) BT.nil))))))))
noncomputable def o432 (P : Params) : Obj := (Obj.mk (.type "dict") none (Data.dict #[(DictEntry.mk (keyHash P "__name__") (.str "__name__" 165) (.str "law_nn0128_01" 758)), (DictEntry.mk (keyHash P "__doc__") (.str "__doc__" 166) Value.none), (DictEntry.mk (keyHash P "__package__") (.str "__package__" 167) Value.none), (DictEntry.mk (keyHash P "__loader__") (.str "__loader__" 168) (.builtin "__main__.__loader__#opaque")), (DictEntry.mk (keyHash P "__spec__") (.str "__spec__" 169) Value.none), (DictEntry.mk (keyHash P "__annotations__") (.str "__annotations__" 170) (.ref 6)), (DictEntry.mk (keyHash P "__builtins__") (.str "__builtins__" 171) (.ref 4)), (DictEntry.mk (keyHash P "__file__") (.str "__file__" 173) (.str "/claim/cut.py" 172)), (DictEntry.mk (keyHash P "__cached__") (.str "__cached__" 174) Value.none), (DictEntry.mk (keyHash P "_wall") (.str "_wall" 193) (.ref 21)), (DictEntry.mk (keyHash P "is_there") (.str "is_there" 205) (.ref 28)), (DictEntry.mk (keyHash P "PaperError") (.str "PaperError" 247) (.ref 53)), (DictEntry.mk (keyHash P "Decimal") (.str "Decimal" 363) (.ref 150)), (DictEntry.mk (keyHash P "sign_text") (.str "sign_text" 370) (.ref 161)), (DictEntry.mk (keyHash P "MOST_HOPS") (.str "MOST_HOPS" 374) (.int 30 373)), (DictEntry.mk (keyHash P "Name") (.str "Name" 403) (.ref 178)), (DictEntry.mk (keyHash P "String") (.str "String" 434) (.ref 200)), (DictEntry.mk (keyHash P "Stream") (.str "Stream" 465) (.ref 221)), (DictEntry.mk (keyHash P "Reference") (.str "Reference" 503) (.ref 249)), (DictEntry.mk (keyHash P "kind_of") (.str "kind_of" 510) (.ref 260)), (DictEntry.mk (keyHash P "told_plain") (.str "told_plain" 518) (.ref 267)), (DictEntry.mk (keyHash P "told") (.str "told" 524) (.ref 272)), (DictEntry.mk (keyHash P "told_objects") (.str "told_objects" 525) (.ref 272)), (DictEntry.mk (keyHash P "parts_of") (.str "parts_of" 531) (.ref 277)), (DictEntry.mk (keyHash P "references_in") (.str "references_in" 542) (.ref 284)), (DictEntry.mk (keyHash P "Lookup") (.str "Lookup" 594) (.ref 316)), (DictEntry.mk (keyHash P "Shelf") (.str "Shelf" 657) (.ref 370)), (DictEntry.mk (keyHash P "BOXES") (.str "BOXES" 662) (.ref 373)), (DictEntry.mk (keyHash P "Finding") (.str "Finding" 702) (.ref 397)), (DictEntry.mk (keyHash P "check_root") (.str "check_root" 710) (.ref 408)), (DictEntry.mk (keyHash P "name_of") (.str "name_of" 717) (.ref 415)), (DictEntry.mk (keyHash P "check_references") (.str "check_references" 727) (.ref 422)), (DictEntry.mk (keyHash P "check_lengths") (.str "check_lengths" 738) (.ref 429)), (DictEntry.mk (keyHash P "is_box") (.str "is_box" 744) (.ref 434)), (DictEntry.mk (keyHash P "field_findings") (.str "field_findings" 757) (.ref 441)), (DictEntry.mk (keyHash P "_law_pen") (.str "_law_pen" 766) (.ref 448)), (DictEntry.mk (keyHash P "_law_draw") (.str "_law_draw" 778) (.ref 455)), (DictEntry.mk (keyHash P "_law_pairs") (.str "_law_pairs" 784) (.ref 460)), (DictEntry.mk (keyHash P "_law_holder") (.str "_law_holder" 790) (.ref 465)), (DictEntry.mk (keyHash P "_law_octets") (.str "_law_octets" 804) (.ref 472)), (DictEntry.mk (keyHash P "_law_missing") (.str "_law_missing" 816) (.ref 479)), (DictEntry.mk (keyHash P "_law_shelf_right") (.str "_law_shelf_right" 822) (.ref 484)), (DictEntry.mk (keyHash P "_law_box") (.str "_law_box" 832) (.ref 491)), (DictEntry.mk (keyHash P "_law_fields_right") (.str "_law_fields_right" 838) (.ref 496))] 44) #[])
noncomputable def o433 (P : Params) : Obj := (Obj.mk Value.none none (Data.fields #[(.int 1 0), (.int 0 0), (.ref 20), (.int 5 0), (.int 0 0), (.ref 27), (.int 9 0), (.int 0 0), (.ref 34), (.int 19 0), (.int 0 0), (.ref 62), (.int 64 0), (.int 0 0), (.ref 160), (.int 68 0), (.int 0 0), (.ref 167), (.int 72 0), (.int 0 0), (.ref 188), (.int 77 0), (.int 0 0), (.ref 210), (.int 82 0), (.int 0 0), (.ref 231), (.int 90 0), (.int 0 0), (.ref 259), (.int 112 0), (.int 0 0), (.ref 266), (.int 126 0), (.int 0 0), (.ref 271), (.int 136 0), (.int 0 0), (.ref 276), (.int 145 0), (.int 0 0), (.ref 283), (.int 158 0), (.int 0 0), (.ref 290), (.int 177 0), (.int 0 0), (.ref 326), (.int 200 0), (.int 0 0), (.ref 379), (.int 209 0), (.int 0 0), (.ref 407), (.int 216 0), (.int 0 0), (.ref 414), (.int 218 0), (.int 0 0), (.ref 421), (.int 228 0), (.int 0 0), (.ref 428), (.int 239 0), (.int 0 0), (.ref 433), (.int 243 0), (.int 0 0), (.ref 440), (.int 258 0), (.int 0 0), (.ref 447), (.int 260 0), (.int 0 0), (.ref 454), (.int 278 0), (.int 0 0), (.ref 459), (.int 280 0), (.int 0 0), (.ref 464), (.int 288 0), (.int 0 0), (.ref 471), (.int 305 0), (.int 0 0), (.ref 478), (.int 312 0), (.int 0 0), (.ref 483), (.int 344 0), (.int 0 0), (.ref 490), (.int 351 0), (.int 0 0), (.ref 495)]) #[])
noncomputable def o434 (P : Params) : Obj := (Obj.mk (.type "tuple") none (Data.seq #[] 0) #[])
noncomputable def o435 (P : Params) : Obj := (Obj.mk Value.none none (Data.fields #[]) #[])
noncomputable def o436 (P : Params) : Obj := (Obj.mk (.type "tuple") none (Data.seq #[(.str "shelf" 731), (.str "found" 732), (.str "number" 733), (.str "value" 734), (.str "length" 735)] 0) #[])
noncomputable def o437 (P : Params) : Obj := (Obj.mk (.type "tuple") none (Data.seq #[] 0) #[])
noncomputable def o438 (P : Params) : Obj := (Obj.mk Value.none none (Data.func (FuncData.mk "check_lengths" "check_lengths" (fd 28).1 (FuncBody.stmts (fd 28).2.1) (fd 28).2.2 0 [] Value.none Value.none Value.none Value.none none Value.none Value.none 0)) #[])
noncomputable def o439 (P : Params) : Obj := (Obj.mk (.type "code") none (Data.fields #[(.str "check_lengths" 728), (.str "check_lengths" 729), (.str "/claim/cut.py" 730), (.int 228 0), (.int 1 0), (.int 0 0), (.int 0 0), (.int 3 0), (.ref 423), (.bool Bool.true), (.int 181 0), (.ref 424), Value.none, (.ref 425), (.ref 426), (.ref 427), (.int 736 0), (.int 228 0), (.str "/claim/cut.py" 737)]) #[])
noncomputable def o440 (P : Params) : Obj := (Obj.mk (.type "function") none (Data.func (FuncData.mk "check_lengths" "check_lengths" (fd 28).1 (FuncBody.stmts (fd 28).2.1) (fd 28).2.2 3 [] Value.none Value.none Value.none (.str "paperhold.checker" 658) none (.ref 428) Value.none 0)) #[])
noncomputable def o441 (P : Params) : Obj := (Obj.mk (.type "tuple") none (Data.seq #[] 0) #[])
noncomputable def o442 (P : Params) : Obj := (Obj.mk Value.none none (Data.fields #[]) #[])
noncomputable def o443 (P : Params) : Obj := (Obj.mk Value.none none (Data.func (FuncData.mk "is_box" "is_box" (fd 29).1 (FuncBody.stmts (fd 29).2.1) (fd 29).2.2 0 [] Value.none Value.none Value.none Value.none none Value.none Value.none 0)) #[])
noncomputable def o444 (P : Params) : Obj := (Obj.mk (.type "code") none (Data.fields #[(.str "is_box" 739), (.str "is_box" 740), (.str "/claim/cut.py" 741), (.int 239 0), (.int 2 0), (.int 0 0), (.int 0 0), (.int 3 0), (.ref 430), (.bool Bool.true), (.int 181 0), (.ref 431), Value.none, Value.none, Value.none, (.ref 432), (.int 742 0), (.int 239 0), (.str "/claim/cut.py" 743)]) #[])
noncomputable def o445 (P : Params) : Obj := (Obj.mk (.type "function") none (Data.func (FuncData.mk "is_box" "is_box" (fd 29).1 (FuncBody.stmts (fd 29).2.1) (fd 29).2.2 3 [] Value.none Value.none Value.none (.str "paperhold.checker" 658) none (.ref 433) Value.none 0)) #[])
noncomputable def o446 (P : Params) : Obj := (Obj.mk (.type "tuple") none (Data.seq #[] 0) #[])
noncomputable def o447 (P : Params) : Obj := (Obj.mk Value.none none (Data.fields #[]) #[])
noncomputable def o448 (P : Params) : Obj := (Obj.mk (.type "tuple") none (Data.seq #[(.str "shelf" 748), (.str "index" 749), (.str "fields" 750), (.str "found" 751), (.str "key" 752), (.str "box" 753), (.str "turn" 754)] 0) #[])
noncomputable def o449 (P : Params) : Obj := (Obj.mk (.type "tuple") none (Data.seq #[] 0) #[])
noncomputable def o450 (P : Params) : Obj := (Obj.mk Value.none none (Data.func (FuncData.mk "field_findings" "field_findings" (fd 30).1 (FuncBody.stmts (fd 30).2.1) (fd 30).2.2 0 [] Value.none Value.none Value.none Value.none none Value.none Value.none 0)) #[])
noncomputable def o451 (P : Params) : Obj := (Obj.mk (.type "code") none (Data.fields #[(.str "field_findings" 745), (.str "field_findings" 746), (.str "/claim/cut.py" 747), (.int 243 0), (.int 3 0), (.int 0 0), (.int 0 0), (.int 3 0), (.ref 435), (.bool Bool.true), (.int 181 0), (.ref 436), Value.none, (.ref 437), (.ref 438), (.ref 439), (.int 755 0), (.int 243 0), (.str "/claim/cut.py" 756)]) #[])
noncomputable def o452 (P : Params) : Obj := (Obj.mk (.type "function") none (Data.func (FuncData.mk "field_findings" "field_findings" (fd 30).1 (FuncBody.stmts (fd 30).2.1) (fd 30).2.2 3 [] Value.none Value.none Value.none (.str "paperhold.checker" 658) none (.ref 440) Value.none 0)) #[])
noncomputable def o453 (P : Params) : Obj := (Obj.mk (.type "tuple") none (Data.seq #[] 0) #[])
noncomputable def o454 (P : Params) : Obj := (Obj.mk Value.none none (Data.fields #[]) #[])
noncomputable def o455 (P : Params) : Obj := (Obj.mk (.type "tuple") none (Data.seq #[(.str "script" 763)] 0) #[])
noncomputable def o456 (P : Params) : Obj := (Obj.mk (.type "tuple") none (Data.seq #[] 0) #[])
noncomputable def o457 (P : Params) : Obj := (Obj.mk Value.none none (Data.func (FuncData.mk "_law_pen" "_law_pen" (fd 32).1 (FuncBody.stmts (fd 32).2.1) (fd 32).2.2 0 [] Value.none Value.none Value.none Value.none none Value.none Value.none 0)) #[])
noncomputable def o458 (P : Params) : Obj := (Obj.mk (.type "code") none (Data.fields #[(.str "_law_pen" 760), (.str "_law_pen" 761), (.str "/claim/cut.py" 762), (.int 258 0), (.int 1 0), (.int 0 0), (.int 0 0), (.int 3 0), (.ref 442), (.bool Bool.true), (.int 181 0), (.ref 443), Value.none, (.ref 444), (.ref 445), (.ref 446), (.int 764 0), (.int 258 0), (.str "/claim/cut.py" 765)]) #[])
noncomputable def o459 (P : Params) : Obj := (Obj.mk (.type "function") none (Data.func (FuncData.mk "_law_pen" "_law_pen" (fd 32).1 (FuncBody.stmts (fd 32).2.1) (fd 32).2.2 3 [] Value.none Value.none Value.none (.str "law_nn0128_01" 758) none (.ref 447) Value.none 0)) #[])
noncomputable def o460 (P : Params) : Obj := (Obj.mk (.type "tuple") none (Data.seq #[] 0) #[])
noncomputable def o461 (P : Params) : Obj := (Obj.mk Value.none none (Data.fields #[]) #[])
noncomputable def o462 (P : Params) : Obj := (Obj.mk (.type "tuple") none (Data.seq #[(.str "pen" 770), (.str "many" 771), (.str "digit" 772), (.str "spot" 773), (.str "cell" 774), (.str "mix" 775)] 0) #[])
noncomputable def o463 (P : Params) : Obj := (Obj.mk (.type "tuple") none (Data.seq #[] 0) #[])
noncomputable def o464 (P : Params) : Obj := (Obj.mk Value.none none (Data.func (FuncData.mk "_law_draw" "_law_draw" (fd 33).1 (FuncBody.stmts (fd 33).2.1) (fd 33).2.2 0 [] Value.none Value.none Value.none Value.none none Value.none Value.none 0)) #[])
noncomputable def o465 (P : Params) : Obj := (Obj.mk (.type "code") none (Data.fields #[(.str "_law_draw" 767), (.str "_law_draw" 768), (.str "/claim/cut.py" 769), (.int 260 0), (.int 2 0), (.int 0 0), (.int 0 0), (.int 3 0), (.ref 449), (.bool Bool.true), (.int 181 0), (.ref 450), Value.none, (.ref 451), (.ref 452), (.ref 453), (.int 776 0), (.int 260 0), (.str "/claim/cut.py" 777)]) #[])
noncomputable def o466 (P : Params) : Obj := (Obj.mk (.type "function") none (Data.func (FuncData.mk "_law_draw" "_law_draw" (fd 33).1 (FuncBody.stmts (fd 33).2.1) (fd 33).2.2 3 [] Value.none Value.none Value.none (.str "law_nn0128_01" 758) none (.ref 454) Value.none 0)) #[])
noncomputable def o467 (P : Params) : Obj := (Obj.mk (.type "tuple") none (Data.seq #[] 0) #[])
noncomputable def o468 (P : Params) : Obj := (Obj.mk Value.none none (Data.fields #[]) #[])
noncomputable def o469 (P : Params) : Obj := (Obj.mk Value.none none (Data.func (FuncData.mk "_law_pairs" "_law_pairs" (fd 34).1 (FuncBody.stmts (fd 34).2.1) (fd 34).2.2 0 [] Value.none Value.none Value.none Value.none none Value.none Value.none 0)) #[])
noncomputable def o470 (P : Params) : Obj := (Obj.mk (.type "code") none (Data.fields #[(.str "_law_pairs" 779), (.str "_law_pairs" 780), (.str "/claim/cut.py" 781), (.int 278 0), (.int 1 0), (.int 0 0), (.int 0 0), (.int 3 0), (.ref 456), (.bool Bool.true), (.int 181 0), (.ref 457), Value.none, Value.none, Value.none, (.ref 458), (.int 782 0), (.int 278 0), (.str "/claim/cut.py" 783)]) #[])
noncomputable def o471 (P : Params) : Obj := (Obj.mk (.type "function") none (Data.func (FuncData.mk "_law_pairs" "_law_pairs" (fd 34).1 (FuncBody.stmts (fd 34).2.1) (fd 34).2.2 3 [] Value.none Value.none Value.none (.str "law_nn0128_01" 758) none (.ref 459) Value.none 0)) #[])
noncomputable def o472 (P : Params) : Obj := (Obj.mk (.type "tuple") none (Data.seq #[] 0) #[])
noncomputable def o473 (P : Params) : Obj := (Obj.mk Value.none none (Data.fields #[]) #[])
noncomputable def o474 (P : Params) : Obj := (Obj.mk Value.none none (Data.func (FuncData.mk "_law_holder" "_law_holder" (fd 35).1 (FuncBody.stmts (fd 35).2.1) (fd 35).2.2 0 [] Value.none Value.none Value.none Value.none none Value.none Value.none 0)) #[])
noncomputable def o475 (P : Params) : Obj := (Obj.mk (.type "code") none (Data.fields #[(.str "_law_holder" 785), (.str "_law_holder" 786), (.str "/claim/cut.py" 787), (.int 280 0), (.int 2 0), (.int 0 0), (.int 0 0), (.int 3 0), (.ref 461), (.bool Bool.true), (.int 181 0), (.ref 462), Value.none, Value.none, Value.none, (.ref 463), (.int 788 0), (.int 280 0), (.str "/claim/cut.py" 789)]) #[])
noncomputable def o476 (P : Params) : Obj := (Obj.mk (.type "function") none (Data.func (FuncData.mk "_law_holder" "_law_holder" (fd 35).1 (FuncBody.stmts (fd 35).2.1) (fd 35).2.2 3 [] Value.none Value.none Value.none (.str "law_nn0128_01" 758) none (.ref 464) Value.none 0)) #[])
noncomputable def o477 (P : Params) : Obj := (Obj.mk (.type "tuple") none (Data.seq #[] 0) #[])
noncomputable def o478 (P : Params) : Obj := (Obj.mk Value.none none (Data.fields #[]) #[])
noncomputable def o479 (P : Params) : Obj := (Obj.mk (.type "tuple") none (Data.seq #[(.str "pen" 794), (.str "shelf" 795), (.str "number" 796), (.str "due" 797), (.str "octets" 798), (.str "way" 799), (.str "length" 800), (.str "head" 801)] 0) #[])
noncomputable def o480 (P : Params) : Obj := (Obj.mk (.type "tuple") none (Data.seq #[] 0) #[])
noncomputable def o481 (P : Params) : Obj := (Obj.mk Value.none none (Data.func (FuncData.mk "_law_octets" "_law_octets" (fd 36).1 (FuncBody.stmts (fd 36).2.1) (fd 36).2.2 0 [] Value.none Value.none Value.none Value.none none Value.none Value.none 0)) #[])
noncomputable def o482 (P : Params) : Obj := (Obj.mk (.type "code") none (Data.fields #[(.str "_law_octets" 791), (.str "_law_octets" 792), (.str "/claim/cut.py" 793), (.int 288 0), (.int 4 0), (.int 0 0), (.int 0 0), (.int 3 0), (.ref 466), (.bool Bool.true), (.int 181 0), (.ref 467), Value.none, (.ref 468), (.ref 469), (.ref 470), (.int 802 0), (.int 288 0), (.str "/claim/cut.py" 803)]) #[])
noncomputable def o483 (P : Params) : Obj := (Obj.mk (.type "function") none (Data.func (FuncData.mk "_law_octets" "_law_octets" (fd 36).1 (FuncBody.stmts (fd 36).2.1) (fd 36).2.2 3 [] Value.none Value.none Value.none (.str "law_nn0128_01" 758) none (.ref 471) Value.none 0)) #[])
noncomputable def o484 (P : Params) : Obj := (Obj.mk (.type "tuple") none (Data.seq #[] 0) #[])
noncomputable def o485 (P : Params) : Obj := (Obj.mk Value.none none (Data.fields #[]) #[])
noncomputable def o486 (P : Params) : Obj := (Obj.mk (.type "tuple") none (Data.seq #[(.str "shelf" 808), (.str "place" 809), (.str "pairs" 810), (.str "due" 811), (.str "pair" 812), (.str "row" 813)] 0) #[])
noncomputable def o487 (P : Params) : Obj := (Obj.mk (.type "tuple") none (Data.seq #[] 0) #[])
noncomputable def o488 (P : Params) : Obj := (Obj.mk Value.none none (Data.func (FuncData.mk "_law_missing" "_law_missing" (fd 37).1 (FuncBody.stmts (fd 37).2.1) (fd 37).2.2 0 [] Value.none Value.none Value.none Value.none none Value.none Value.none 0)) #[])
noncomputable def o489 (P : Params) : Obj := (Obj.mk (.type "code") none (Data.fields #[(.str "_law_missing" 805), (.str "_law_missing" 806), (.str "/claim/cut.py" 807), (.int 305 0), (.int 3 0), (.int 0 0), (.int 0 0), (.int 3 0), (.ref 473), (.bool Bool.true), (.int 181 0), (.ref 474), Value.none, (.ref 475), (.ref 476), (.ref 477), (.int 814 0), (.int 305 0), (.str "/claim/cut.py" 815)]) #[])
noncomputable def o490 (P : Params) : Obj := (Obj.mk (.type "function") none (Data.func (FuncData.mk "_law_missing" "_law_missing" (fd 37).1 (FuncBody.stmts (fd 37).2.1) (fd 37).2.2 3 [] Value.none Value.none Value.none (.str "law_nn0128_01" 758) none (.ref 478) Value.none 0)) #[])
noncomputable def o491 (P : Params) : Obj := (Obj.mk (.type "tuple") none (Data.seq #[] 0) #[])
noncomputable def o492 (P : Params) : Obj := (Obj.mk Value.none none (Data.fields #[]) #[])
noncomputable def o493 (P : Params) : Obj := (Obj.mk Value.none none (Data.func (FuncData.mk "_law_shelf_right" "_law_shelf_right" (fd 38).1 (FuncBody.stmts (fd 38).2.1) (fd 38).2.2 0 [] Value.none Value.none Value.none Value.none none Value.none Value.none 0)) #[])
noncomputable def o494 (P : Params) : Obj := (Obj.mk (.type "code") none (Data.fields #[(.str "_law_shelf_right" 817), (.str "_law_shelf_right" 818), (.str "/claim/cut.py" 819), (.int 312 0), (.int 1 0), (.int 0 0), (.int 0 0), (.int 3 0), (.ref 480), (.bool Bool.true), (.int 181 0), (.ref 481), Value.none, Value.none, Value.none, (.ref 482), (.int 820 0), (.int 312 0), (.str "/claim/cut.py" 821)]) #[])
noncomputable def o495 (P : Params) : Obj := (Obj.mk (.type "function") none (Data.func (FuncData.mk "_law_shelf_right" "_law_shelf_right" (fd 38).1 (FuncBody.stmts (fd 38).2.1) (fd 38).2.2 3 [] Value.none Value.none Value.none (.str "law_nn0128_01" 758) none (.ref 483) Value.none 0)) #[])
noncomputable def o496 (P : Params) : Obj := (Obj.mk (.type "tuple") none (Data.seq #[] 0) #[])
noncomputable def o497 (P : Params) : Obj := (Obj.mk Value.none none (Data.fields #[]) #[])
noncomputable def o498 (P : Params) : Obj := (Obj.mk (.type "tuple") none (Data.seq #[(.str "pen" 826), (.str "way" 827), (.str "some" 828), (.str "worth" 829)] 0) #[])
noncomputable def o499 (P : Params) : Obj := (Obj.mk (.type "tuple") none (Data.seq #[] 0) #[])
noncomputable def o500 (P : Params) : Obj := (Obj.mk Value.none none (Data.func (FuncData.mk "_law_box" "_law_box" (fd 39).1 (FuncBody.stmts (fd 39).2.1) (fd 39).2.2 0 [] Value.none Value.none Value.none Value.none none Value.none Value.none 0)) #[])
noncomputable def o501 (P : Params) : Obj := (Obj.mk (.type "code") none (Data.fields #[(.str "_law_box" 823), (.str "_law_box" 824), (.str "/claim/cut.py" 825), (.int 344 0), (.int 1 0), (.int 0 0), (.int 0 0), (.int 3 0), (.ref 485), (.bool Bool.true), (.int 181 0), (.ref 486), Value.none, (.ref 487), (.ref 488), (.ref 489), (.int 830 0), (.int 344 0), (.str "/claim/cut.py" 831)]) #[])
noncomputable def o502 (P : Params) : Obj := (Obj.mk (.type "function") none (Data.func (FuncData.mk "_law_box" "_law_box" (fd 39).1 (FuncBody.stmts (fd 39).2.1) (fd 39).2.2 3 [] Value.none Value.none Value.none (.str "law_nn0128_01" 758) none (.ref 490) Value.none 0)) #[])
noncomputable def o503 (P : Params) : Obj := (Obj.mk (.type "tuple") none (Data.seq #[] 0) #[])
noncomputable def o504 (P : Params) : Obj := (Obj.mk Value.none none (Data.fields #[]) #[])
noncomputable def o505 (P : Params) : Obj := (Obj.mk Value.none none (Data.func (FuncData.mk "_law_fields_right" "_law_fields_right" (fd 40).1 (FuncBody.stmts (fd 40).2.1) (fd 40).2.2 0 [] Value.none Value.none Value.none Value.none none Value.none Value.none 0)) #[])
noncomputable def o506 (P : Params) : Obj := (Obj.mk (.type "code") none (Data.fields #[(.str "_law_fields_right" 833), (.str "_law_fields_right" 834), (.str "/claim/cut.py" 835), (.int 351 0), (.int 1 0), (.int 0 0), (.int 0 0), (.int 3 0), (.ref 492), (.bool Bool.true), (.int 181 0), (.ref 493), Value.none, Value.none, Value.none, (.ref 494), (.int 836 0), (.int 351 0), (.str "/claim/cut.py" 837)]) #[])
noncomputable def o507 (P : Params) : Obj := (Obj.mk (.type "function") none (Data.func (FuncData.mk "_law_fields_right" "_law_fields_right" (fd 40).1 (FuncBody.stmts (fd 40).2.1) (fd 40).2.2 3 [] Value.none Value.none Value.none (.str "law_nn0128_01" 758) none (.ref 495) Value.none 0)) #[])
noncomputable def tr_g9 (P : Params) : BT := (BT.node (boot_o_0 P) (BT.node (boot_o_1 P) (BT.node (o432 P) (BT.node (boot_o_7 P) (BT.node (o7 P) (BT.node (o23 P) (BT.node (o57 P) (BT.node (o121 P) (BT.node (o257 P) BT.nil BT.nil) (BT.node (o392 P) BT.nil BT.nil)) (BT.node (o189 P) (BT.node (o323 P) BT.nil BT.nil) (BT.node (o458 P) BT.nil BT.nil))) (BT.node (o89 P) (BT.node (o155 P) (BT.node (o291 P) BT.nil BT.nil) (BT.node (o424 P) BT.nil BT.nil)) (BT.node (o223 P) (BT.node (o358 P) BT.nil BT.nil) (BT.node (o490 P) BT.nil BT.nil)))) (BT.node (o39 P) (BT.node (o73 P) (BT.node (o137 P) (BT.node (o273 P) BT.nil BT.nil) (BT.node (o408 P) BT.nil BT.nil)) (BT.node (o207 P) (BT.node (o342 P) BT.nil BT.nil) (BT.node (o474 P) BT.nil BT.nil))) (BT.node (o105 P) (BT.node (o171 P) (BT.node (o307 P) BT.nil BT.nil) (BT.node (o442 P) BT.nil BT.nil)) (BT.node (o241 P) (BT.node (o374 P) BT.nil BT.nil) (BT.node (o506 P) BT.nil BT.nil))))) (BT.node (o15 P) (BT.node (o31 P) (BT.node (o65 P) (BT.node (o129 P) (BT.node (o265 P) BT.nil BT.nil) (BT.node (o400 P) BT.nil BT.nil)) (BT.node (o197 P) (BT.node (o334 P) BT.nil BT.nil) (BT.node (o466 P) BT.nil BT.nil))) (BT.node (o97 P) (BT.node (o163 P) (BT.node (o299 P) BT.nil BT.nil) (BT.node (o434 P) BT.nil BT.nil)) (BT.node (o233 P) (BT.node (o366 P) BT.nil BT.nil) (BT.node (o498 P) BT.nil BT.nil)))) (BT.node (o47 P) (BT.node (o81 P) (BT.node (o145 P) (BT.node (o283 P) BT.nil BT.nil) (BT.node (o416 P) BT.nil BT.nil)) (BT.node (o215 P) (BT.node (o350 P) BT.nil BT.nil) (BT.node (o482 P) BT.nil BT.nil))) (BT.node (o113 P) (BT.node (o181 P) (BT.node (o315 P) BT.nil BT.nil) (BT.node (o450 P) BT.nil BT.nil)) (BT.node (o249 P) (BT.node (o384 P) BT.nil BT.nil) BT.nil))))) (BT.node (o0 P) (BT.node (o11 P) (BT.node (o27 P) (BT.node (o61 P) (BT.node (o125 P) (BT.node (o261 P) BT.nil BT.nil) (BT.node (o396 P) BT.nil BT.nil)) (BT.node (o193 P) (BT.node (o330 P) BT.nil BT.nil) (BT.node (o462 P) BT.nil BT.nil))) (BT.node (o93 P) (BT.node (o159 P) (BT.node (o295 P) BT.nil BT.nil) (BT.node (o428 P) BT.nil BT.nil)) (BT.node (o229 P) (BT.node (o362 P) BT.nil BT.nil) (BT.node (o494 P) BT.nil BT.nil)))) (BT.node (o43 P) (BT.node (o77 P) (BT.node (o141 P) (BT.node (o277 P) BT.nil BT.nil) (BT.node (o412 P) BT.nil BT.nil)) (BT.node (o211 P) (BT.node (o346 P) BT.nil BT.nil) (BT.node (o478 P) BT.nil BT.nil))) (BT.node (o109 P) (BT.node (o175 P) (BT.node (o311 P) BT.nil BT.nil) (BT.node (o446 P) BT.nil BT.nil)) (BT.node (o245 P) (BT.node (o378 P) BT.nil BT.nil) BT.nil)))) (BT.node (o19 P) (BT.node (o35 P) (BT.node (o69 P) (BT.node (o133 P) (BT.node (o269 P) BT.nil BT.nil) (BT.node (o404 P) BT.nil BT.nil)) (BT.node (o201 P) (BT.node (o338 P) BT.nil BT.nil) (BT.node (o470 P) BT.nil BT.nil))) (BT.node (o101 P) (BT.node (o167 P) (BT.node (o303 P) BT.nil BT.nil) (BT.node (o438 P) BT.nil BT.nil)) (BT.node (o237 P) (BT.node (o370 P) BT.nil BT.nil) (BT.node (o502 P) BT.nil BT.nil)))) (BT.node (o53 P) (BT.node (o85 P) (BT.node (o151 P) (BT.node (o287 P) BT.nil BT.nil) (BT.node (o420 P) BT.nil BT.nil)) (BT.node (o219 P) (BT.node (o354 P) BT.nil BT.nil) (BT.node (o486 P) BT.nil BT.nil))) (BT.node (o117 P) (BT.node (o185 P) (BT.node (o319 P) BT.nil BT.nil) (BT.node (o454 P) BT.nil BT.nil)) (BT.node (o253 P) (BT.node (o388 P) BT.nil BT.nil) BT.nil)))))) (BT.node (boot_o_5 P) (BT.node (boot_o_9 P) (BT.node (o9 P) (BT.node (o25 P) (BT.node (o59 P) (BT.node (o123 P) (BT.node (o259 P) BT.nil BT.nil) (BT.node (o394 P) BT.nil BT.nil)) (BT.node (o191 P) (BT.node (o328 P) BT.nil BT.nil) (BT.node (o460 P) BT.nil BT.nil))) (BT.node (o91 P) (BT.node (o157 P) (BT.node (o293 P) BT.nil BT.nil) (BT.node (o426 P) BT.nil BT.nil)) (BT.node (o225 P) (BT.node (o360 P) BT.nil BT.nil) (BT.node (o492 P) BT.nil BT.nil)))) (BT.node (o41 P) (BT.node (o75 P) (BT.node (o139 P) (BT.node (o275 P) BT.nil BT.nil) (BT.node (o410 P) BT.nil BT.nil)) (BT.node (o209 P) (BT.node (o344 P) BT.nil BT.nil) (BT.node (o476 P) BT.nil BT.nil))) (BT.node (o107 P) (BT.node (o173 P) (BT.node (o309 P) BT.nil BT.nil) (BT.node (o444 P) BT.nil BT.nil)) (BT.node (o243 P) (BT.node (o376 P) BT.nil BT.nil) BT.nil)))) (BT.node (o17 P) (BT.node (o33 P) (BT.node (o67 P) (BT.node (o131 P) (BT.node (o267 P) BT.nil BT.nil) (BT.node (o402 P) BT.nil BT.nil)) (BT.node (o199 P) (BT.node (o336 P) BT.nil BT.nil) (BT.node (o468 P) BT.nil BT.nil))) (BT.node (o99 P) (BT.node (o165 P) (BT.node (o301 P) BT.nil BT.nil) (BT.node (o436 P) BT.nil BT.nil)) (BT.node (o235 P) (BT.node (o368 P) BT.nil BT.nil) (BT.node (o500 P) BT.nil BT.nil)))) (BT.node (o51 P) (BT.node (o83 P) (BT.node (o147 P) (BT.node (o285 P) BT.nil BT.nil) (BT.node (o418 P) BT.nil BT.nil)) (BT.node (o217 P) (BT.node (o352 P) BT.nil BT.nil) (BT.node (o484 P) BT.nil BT.nil))) (BT.node (o115 P) (BT.node (o183 P) (BT.node (o317 P) BT.nil BT.nil) (BT.node (o452 P) BT.nil BT.nil)) (BT.node (o251 P) (BT.node (o386 P) BT.nil BT.nil) BT.nil))))) (BT.node (o2 P) (BT.node (o13 P) (BT.node (o29 P) (BT.node (o63 P) (BT.node (o127 P) (BT.node (o263 P) BT.nil BT.nil) (BT.node (o398 P) BT.nil BT.nil)) (BT.node (o195 P) (BT.node (o332 P) BT.nil BT.nil) (BT.node (o464 P) BT.nil BT.nil))) (BT.node (o95 P) (BT.node (o161 P) (BT.node (o297 P) BT.nil BT.nil) (BT.node (o430 P) BT.nil BT.nil)) (BT.node (o231 P) (BT.node (o364 P) BT.nil BT.nil) (BT.node (o496 P) BT.nil BT.nil)))) (BT.node (o45 P) (BT.node (o79 P) (BT.node (o143 P) (BT.node (o279 P) BT.nil BT.nil) (BT.node (o414 P) BT.nil BT.nil)) (BT.node (o213 P) (BT.node (o348 P) BT.nil BT.nil) (BT.node (o480 P) BT.nil BT.nil))) (BT.node (o111 P) (BT.node (o177 P) (BT.node (o313 P) BT.nil BT.nil) (BT.node (o448 P) BT.nil BT.nil)) (BT.node (o247 P) (BT.node (o382 P) BT.nil BT.nil) BT.nil)))) (BT.node (o21 P) (BT.node (o37 P) (BT.node (o71 P) (BT.node (o135 P) (BT.node (o271 P) BT.nil BT.nil) (BT.node (o406 P) BT.nil BT.nil)) (BT.node (o205 P) (BT.node (o340 P) BT.nil BT.nil) (BT.node (o472 P) BT.nil BT.nil))) (BT.node (o103 P) (BT.node (o169 P) (BT.node (o305 P) BT.nil BT.nil) (BT.node (o440 P) BT.nil BT.nil)) (BT.node (o239 P) (BT.node (o372 P) BT.nil BT.nil) (BT.node (o504 P) BT.nil BT.nil)))) (BT.node (o55 P) (BT.node (o87 P) (BT.node (o153 P) (BT.node (o289 P) BT.nil BT.nil) (BT.node (o422 P) BT.nil BT.nil)) (BT.node (o221 P) (BT.node (o356 P) BT.nil BT.nil) (BT.node (o488 P) BT.nil BT.nil))) (BT.node (o119 P) (BT.node (o187 P) (BT.node (o321 P) BT.nil BT.nil) (BT.node (o456 P) BT.nil BT.nil)) (BT.node (o255 P) (BT.node (o390 P) BT.nil BT.nil) BT.nil))))))) (BT.node (o4 P) (BT.node (boot_o_4 P) (BT.node (boot_o_8 P) (BT.node (o8 P) (BT.node (o24 P) (BT.node (o58 P) (BT.node (o122 P) (BT.node (o258 P) BT.nil BT.nil) (BT.node (o393 P) BT.nil BT.nil)) (BT.node (o190 P) (BT.node (o324 P) BT.nil BT.nil) (BT.node (o459 P) BT.nil BT.nil))) (BT.node (o90 P) (BT.node (o156 P) (BT.node (o292 P) BT.nil BT.nil) (BT.node (o425 P) BT.nil BT.nil)) (BT.node (o224 P) (BT.node (o359 P) BT.nil BT.nil) (BT.node (o491 P) BT.nil BT.nil)))) (BT.node (o40 P) (BT.node (o74 P) (BT.node (o138 P) (BT.node (o274 P) BT.nil BT.nil) (BT.node (o409 P) BT.nil BT.nil)) (BT.node (o208 P) (BT.node (o343 P) BT.nil BT.nil) (BT.node (o475 P) BT.nil BT.nil))) (BT.node (o106 P) (BT.node (o172 P) (BT.node (o308 P) BT.nil BT.nil) (BT.node (o443 P) BT.nil BT.nil)) (BT.node (o242 P) (BT.node (o375 P) BT.nil BT.nil) (BT.node (o507 P) BT.nil BT.nil))))) (BT.node (o16 P) (BT.node (o32 P) (BT.node (o66 P) (BT.node (o130 P) (BT.node (o266 P) BT.nil BT.nil) (BT.node (o401 P) BT.nil BT.nil)) (BT.node (o198 P) (BT.node (o335 P) BT.nil BT.nil) (BT.node (o467 P) BT.nil BT.nil))) (BT.node (o98 P) (BT.node (o164 P) (BT.node (o300 P) BT.nil BT.nil) (BT.node (o435 P) BT.nil BT.nil)) (BT.node (o234 P) (BT.node (o367 P) BT.nil BT.nil) (BT.node (o499 P) BT.nil BT.nil)))) (BT.node (o48 P) (BT.node (o82 P) (BT.node (o146 P) (BT.node (o284 P) BT.nil BT.nil) (BT.node (o417 P) BT.nil BT.nil)) (BT.node (o216 P) (BT.node (o351 P) BT.nil BT.nil) (BT.node (o483 P) BT.nil BT.nil))) (BT.node (o114 P) (BT.node (o182 P) (BT.node (o316 P) BT.nil BT.nil) (BT.node (o451 P) BT.nil BT.nil)) (BT.node (o250 P) (BT.node (o385 P) BT.nil BT.nil) BT.nil))))) (BT.node (o433 P) (BT.node (o12 P) (BT.node (o28 P) (BT.node (o62 P) (BT.node (o126 P) (BT.node (o262 P) BT.nil BT.nil) (BT.node (o397 P) BT.nil BT.nil)) (BT.node (o194 P) (BT.node (o331 P) BT.nil BT.nil) (BT.node (o463 P) BT.nil BT.nil))) (BT.node (o94 P) (BT.node (o160 P) (BT.node (o296 P) BT.nil BT.nil) (BT.node (o429 P) BT.nil BT.nil)) (BT.node (o230 P) (BT.node (o363 P) BT.nil BT.nil) (BT.node (o495 P) BT.nil BT.nil)))) (BT.node (o44 P) (BT.node (o78 P) (BT.node (o142 P) (BT.node (o278 P) BT.nil BT.nil) (BT.node (o413 P) BT.nil BT.nil)) (BT.node (o212 P) (BT.node (o347 P) BT.nil BT.nil) (BT.node (o479 P) BT.nil BT.nil))) (BT.node (o110 P) (BT.node (o176 P) (BT.node (o312 P) BT.nil BT.nil) (BT.node (o447 P) BT.nil BT.nil)) (BT.node (o246 P) (BT.node (o379 P) BT.nil BT.nil) BT.nil)))) (BT.node (o20 P) (BT.node (o36 P) (BT.node (o70 P) (BT.node (o134 P) (BT.node (o270 P) BT.nil BT.nil) (BT.node (o405 P) BT.nil BT.nil)) (BT.node (o202 P) (BT.node (o339 P) BT.nil BT.nil) (BT.node (o471 P) BT.nil BT.nil))) (BT.node (o102 P) (BT.node (o168 P) (BT.node (o304 P) BT.nil BT.nil) (BT.node (o439 P) BT.nil BT.nil)) (BT.node (o238 P) (BT.node (o371 P) BT.nil BT.nil) (BT.node (o503 P) BT.nil BT.nil)))) (BT.node (o54 P) (BT.node (o86 P) (BT.node (o152 P) (BT.node (o288 P) BT.nil BT.nil) (BT.node (o421 P) BT.nil BT.nil)) (BT.node (o220 P) (BT.node (o355 P) BT.nil BT.nil) (BT.node (o487 P) BT.nil BT.nil))) (BT.node (o118 P) (BT.node (o186 P) (BT.node (o327 P) BT.nil BT.nil) (BT.node (o455 P) BT.nil BT.nil)) (BT.node (o254 P) (BT.node (o389 P) BT.nil BT.nil) BT.nil)))))) (BT.node (boot_o_6 P) (BT.node (boot_o_10 P) (BT.node (o10 P) (BT.node (o26 P) (BT.node (o60 P) (BT.node (o124 P) (BT.node (o260 P) BT.nil BT.nil) (BT.node (o395 P) BT.nil BT.nil)) (BT.node (o192 P) (BT.node (o329 P) BT.nil BT.nil) (BT.node (o461 P) BT.nil BT.nil))) (BT.node (o92 P) (BT.node (o158 P) (BT.node (o294 P) BT.nil BT.nil) (BT.node (o427 P) BT.nil BT.nil)) (BT.node (o228 P) (BT.node (o361 P) BT.nil BT.nil) (BT.node (o493 P) BT.nil BT.nil)))) (BT.node (o42 P) (BT.node (o76 P) (BT.node (o140 P) (BT.node (o276 P) BT.nil BT.nil) (BT.node (o411 P) BT.nil BT.nil)) (BT.node (o210 P) (BT.node (o345 P) BT.nil BT.nil) (BT.node (o477 P) BT.nil BT.nil))) (BT.node (o108 P) (BT.node (o174 P) (BT.node (o310 P) BT.nil BT.nil) (BT.node (o445 P) BT.nil BT.nil)) (BT.node (o244 P) (BT.node (o377 P) BT.nil BT.nil) BT.nil)))) (BT.node (o18 P) (BT.node (o34 P) (BT.node (o68 P) (BT.node (o132 P) (BT.node (o268 P) BT.nil BT.nil) (BT.node (o403 P) BT.nil BT.nil)) (BT.node (o200 P) (BT.node (o337 P) BT.nil BT.nil) (BT.node (o469 P) BT.nil BT.nil))) (BT.node (o100 P) (BT.node (o166 P) (BT.node (o302 P) BT.nil BT.nil) (BT.node (o437 P) BT.nil BT.nil)) (BT.node (o236 P) (BT.node (o369 P) BT.nil BT.nil) (BT.node (o501 P) BT.nil BT.nil)))) (BT.node (o52 P) (BT.node (o84 P) (BT.node (o148 P) (BT.node (o286 P) BT.nil BT.nil) (BT.node (o419 P) BT.nil BT.nil)) (BT.node (o218 P) (BT.node (o353 P) BT.nil BT.nil) (BT.node (o485 P) BT.nil BT.nil))) (BT.node (o116 P) (BT.node (o184 P) (BT.node (o318 P) BT.nil BT.nil) (BT.node (o453 P) BT.nil BT.nil)) (BT.node (o252 P) (BT.node (o387 P) BT.nil BT.nil) BT.nil))))) (BT.node (o3 P) (BT.node (o14 P) (BT.node (o30 P) (BT.node (o64 P) (BT.node (o128 P) (BT.node (o264 P) BT.nil BT.nil) (BT.node (o399 P) BT.nil BT.nil)) (BT.node (o196 P) (BT.node (o333 P) BT.nil BT.nil) (BT.node (o465 P) BT.nil BT.nil))) (BT.node (o96 P) (BT.node (o162 P) (BT.node (o298 P) BT.nil BT.nil) (BT.node (o431 P) BT.nil BT.nil)) (BT.node (o232 P) (BT.node (o365 P) BT.nil BT.nil) (BT.node (o497 P) BT.nil BT.nil)))) (BT.node (o46 P) (BT.node (o80 P) (BT.node (o144 P) (BT.node (o282 P) BT.nil BT.nil) (BT.node (o415 P) BT.nil BT.nil)) (BT.node (o214 P) (BT.node (o349 P) BT.nil BT.nil) (BT.node (o481 P) BT.nil BT.nil))) (BT.node (o112 P) (BT.node (o178 P) (BT.node (o314 P) BT.nil BT.nil) (BT.node (o449 P) BT.nil BT.nil)) (BT.node (o248 P) (BT.node (o383 P) BT.nil BT.nil) BT.nil)))) (BT.node (o22 P) (BT.node (o38 P) (BT.node (o72 P) (BT.node (o136 P) (BT.node (o272 P) BT.nil BT.nil) (BT.node (o407 P) BT.nil BT.nil)) (BT.node (o206 P) (BT.node (o341 P) BT.nil BT.nil) (BT.node (o473 P) BT.nil BT.nil))) (BT.node (o104 P) (BT.node (o170 P) (BT.node (o306 P) BT.nil BT.nil) (BT.node (o441 P) BT.nil BT.nil)) (BT.node (o240 P) (BT.node (o373 P) BT.nil BT.nil) (BT.node (o505 P) BT.nil BT.nil)))) (BT.node (o56 P) (BT.node (o88 P) (BT.node (o154 P) (BT.node (o290 P) BT.nil BT.nil) (BT.node (o423 P) BT.nil BT.nil)) (BT.node (o222 P) (BT.node (o357 P) BT.nil BT.nil) (BT.node (o489 P) BT.nil BT.nil))) (BT.node (o120 P) (BT.node (o188 P) (BT.node (o322 P) BT.nil BT.nil) (BT.node (o457 P) BT.nil BT.nil)) (BT.node (o256 P) (BT.node (o391 P) BT.nil BT.nil) BT.nil))))))))
noncomputable def o508 (P : Params) : Obj := (Obj.mk (.type "dict") none (Data.dict #[(DictEntry.mk (keyHash P "__name__") (.str "__name__" 165) (.str "law_nn0128_01" 758)), (DictEntry.mk (keyHash P "__doc__") (.str "__doc__" 166) Value.none), (DictEntry.mk (keyHash P "__package__") (.str "__package__" 167) Value.none), (DictEntry.mk (keyHash P "__loader__") (.str "__loader__" 168) (.builtin "__main__.__loader__#opaque")), (DictEntry.mk (keyHash P "__spec__") (.str "__spec__" 169) Value.none), (DictEntry.mk (keyHash P "__annotations__") (.str "__annotations__" 170) (.ref 6)), (DictEntry.mk (keyHash P "__builtins__") (.str "__builtins__" 171) (.ref 4)), (DictEntry.mk (keyHash P "__file__") (.str "__file__" 173) (.str "/claim/cut.py" 172)), (DictEntry.mk (keyHash P "__cached__") (.str "__cached__" 174) Value.none), (DictEntry.mk (keyHash P "_wall") (.str "_wall" 193) (.ref 21)), (DictEntry.mk (keyHash P "is_there") (.str "is_there" 205) (.ref 28)), (DictEntry.mk (keyHash P "PaperError") (.str "PaperError" 247) (.ref 53)), (DictEntry.mk (keyHash P "Decimal") (.str "Decimal" 363) (.ref 150)), (DictEntry.mk (keyHash P "sign_text") (.str "sign_text" 370) (.ref 161)), (DictEntry.mk (keyHash P "MOST_HOPS") (.str "MOST_HOPS" 374) (.int 30 373)), (DictEntry.mk (keyHash P "Name") (.str "Name" 403) (.ref 178)), (DictEntry.mk (keyHash P "String") (.str "String" 434) (.ref 200)), (DictEntry.mk (keyHash P "Stream") (.str "Stream" 465) (.ref 221)), (DictEntry.mk (keyHash P "Reference") (.str "Reference" 503) (.ref 249)), (DictEntry.mk (keyHash P "kind_of") (.str "kind_of" 510) (.ref 260)), (DictEntry.mk (keyHash P "told_plain") (.str "told_plain" 518) (.ref 267)), (DictEntry.mk (keyHash P "told") (.str "told" 524) (.ref 272)), (DictEntry.mk (keyHash P "told_objects") (.str "told_objects" 525) (.ref 272)), (DictEntry.mk (keyHash P "parts_of") (.str "parts_of" 531) (.ref 277)), (DictEntry.mk (keyHash P "references_in") (.str "references_in" 542) (.ref 284)), (DictEntry.mk (keyHash P "Lookup") (.str "Lookup" 594) (.ref 316)), (DictEntry.mk (keyHash P "Shelf") (.str "Shelf" 657) (.ref 370)), (DictEntry.mk (keyHash P "BOXES") (.str "BOXES" 662) (.ref 373)), (DictEntry.mk (keyHash P "Finding") (.str "Finding" 702) (.ref 397)), (DictEntry.mk (keyHash P "check_root") (.str "check_root" 710) (.ref 408)), (DictEntry.mk (keyHash P "name_of") (.str "name_of" 717) (.ref 415)), (DictEntry.mk (keyHash P "check_references") (.str "check_references" 727) (.ref 422)), (DictEntry.mk (keyHash P "check_lengths") (.str "check_lengths" 738) (.ref 429)), (DictEntry.mk (keyHash P "is_box") (.str "is_box" 744) (.ref 434)), (DictEntry.mk (keyHash P "field_findings") (.str "field_findings" 757) (.ref 441)), (DictEntry.mk (keyHash P "_law_pen") (.str "_law_pen" 766) (.ref 448)), (DictEntry.mk (keyHash P "_law_draw") (.str "_law_draw" 778) (.ref 455)), (DictEntry.mk (keyHash P "_law_pairs") (.str "_law_pairs" 784) (.ref 460)), (DictEntry.mk (keyHash P "_law_holder") (.str "_law_holder" 790) (.ref 465)), (DictEntry.mk (keyHash P "_law_octets") (.str "_law_octets" 804) (.ref 472)), (DictEntry.mk (keyHash P "_law_missing") (.str "_law_missing" 816) (.ref 479)), (DictEntry.mk (keyHash P "_law_shelf_right") (.str "_law_shelf_right" 822) (.ref 484)), (DictEntry.mk (keyHash P "_law_box") (.str "_law_box" 832) (.ref 491)), (DictEntry.mk (keyHash P "_law_fields_right") (.str "_law_fields_right" 838) (.ref 496)), (DictEntry.mk (keyHash P "law") (.str "law" 847) (.ref 503))] 45) #[])
noncomputable def o509 (P : Params) : Obj := (Obj.mk Value.none none (Data.fields #[(.int 1 0), (.int 0 0), (.ref 20), (.int 5 0), (.int 0 0), (.ref 27), (.int 9 0), (.int 0 0), (.ref 34), (.int 19 0), (.int 0 0), (.ref 62), (.int 64 0), (.int 0 0), (.ref 160), (.int 68 0), (.int 0 0), (.ref 167), (.int 72 0), (.int 0 0), (.ref 188), (.int 77 0), (.int 0 0), (.ref 210), (.int 82 0), (.int 0 0), (.ref 231), (.int 90 0), (.int 0 0), (.ref 259), (.int 112 0), (.int 0 0), (.ref 266), (.int 126 0), (.int 0 0), (.ref 271), (.int 136 0), (.int 0 0), (.ref 276), (.int 145 0), (.int 0 0), (.ref 283), (.int 158 0), (.int 0 0), (.ref 290), (.int 177 0), (.int 0 0), (.ref 326), (.int 200 0), (.int 0 0), (.ref 379), (.int 209 0), (.int 0 0), (.ref 407), (.int 216 0), (.int 0 0), (.ref 414), (.int 218 0), (.int 0 0), (.ref 421), (.int 228 0), (.int 0 0), (.ref 428), (.int 239 0), (.int 0 0), (.ref 433), (.int 243 0), (.int 0 0), (.ref 440), (.int 258 0), (.int 0 0), (.ref 447), (.int 260 0), (.int 0 0), (.ref 454), (.int 278 0), (.int 0 0), (.ref 459), (.int 280 0), (.int 0 0), (.ref 464), (.int 288 0), (.int 0 0), (.ref 471), (.int 305 0), (.int 0 0), (.ref 478), (.int 312 0), (.int 0 0), (.ref 483), (.int 344 0), (.int 0 0), (.ref 490), (.int 351 0), (.int 0 0), (.ref 495), (.int 380 0), (.int 0 0), (.ref 502)]) #[])
noncomputable def o510 (P : Params) : Obj := (Obj.mk (.type "tuple") none (Data.seq #[] 0) #[])
noncomputable def o511 (P : Params) : Obj := (Obj.mk Value.none none (Data.fields #[]) #[])
noncomputable def o512 (P : Params) : Obj := (Obj.mk (.type "tuple") none (Data.seq #[(.str "script" 842), (.str "pen" 843), (.str "lap" 844)] 0) #[])
noncomputable def o513 (P : Params) : Obj := (Obj.mk (.type "tuple") none (Data.seq #[] 0) #[])
noncomputable def o514 (P : Params) : Obj := (Obj.mk Value.none none (Data.func (FuncData.mk "law" "law" (fd 41).1 (FuncBody.stmts (fd 41).2.1) (fd 41).2.2 0 [] Value.none Value.none Value.none Value.none none Value.none Value.none 0)) #[])
noncomputable def o515 (P : Params) : Obj := (Obj.mk (.type "code") none (Data.fields #[(.str "law" 839), (.str "law" 840), (.str "/claim/cut.py" 841), (.int 380 0), (.int 1 0), (.int 0 0), (.int 0 0), (.int 3 0), (.ref 497), (.bool Bool.true), (.int 181 0), (.ref 498), Value.none, (.ref 499), (.ref 500), (.ref 501), (.int 845 0), (.int 380 0), (.str "/claim/cut.py" 846)]) #[])
noncomputable def o516 (P : Params) : Obj := (Obj.mk (.type "function") none (Data.func (FuncData.mk "law" "law" (fd 41).1 (FuncBody.stmts (fd 41).2.1) (fd 41).2.2 3 [] Value.none Value.none Value.none (.str "law_nn0128_01" 758) none (.ref 502) Value.none 0)) #[])
noncomputable def tr_g10 (P : Params) : BT := (BT.node (boot_o_0 P) (BT.node (boot_o_1 P) (BT.node (o508 P) (BT.node (boot_o_7 P) (BT.node (o7 P) (BT.node (o23 P) (BT.node (o57 P) (BT.node (o121 P) (BT.node (o257 P) BT.nil BT.nil) (BT.node (o392 P) BT.nil BT.nil)) (BT.node (o189 P) (BT.node (o323 P) BT.nil BT.nil) (BT.node (o458 P) BT.nil BT.nil))) (BT.node (o89 P) (BT.node (o155 P) (BT.node (o291 P) BT.nil BT.nil) (BT.node (o424 P) BT.nil BT.nil)) (BT.node (o223 P) (BT.node (o358 P) BT.nil BT.nil) (BT.node (o490 P) BT.nil BT.nil)))) (BT.node (o39 P) (BT.node (o73 P) (BT.node (o137 P) (BT.node (o273 P) BT.nil BT.nil) (BT.node (o408 P) BT.nil BT.nil)) (BT.node (o207 P) (BT.node (o342 P) BT.nil BT.nil) (BT.node (o474 P) BT.nil BT.nil))) (BT.node (o105 P) (BT.node (o171 P) (BT.node (o307 P) BT.nil BT.nil) (BT.node (o442 P) BT.nil BT.nil)) (BT.node (o241 P) (BT.node (o374 P) BT.nil BT.nil) (BT.node (o506 P) BT.nil BT.nil))))) (BT.node (o15 P) (BT.node (o31 P) (BT.node (o65 P) (BT.node (o129 P) (BT.node (o265 P) BT.nil BT.nil) (BT.node (o400 P) BT.nil BT.nil)) (BT.node (o197 P) (BT.node (o334 P) BT.nil BT.nil) (BT.node (o466 P) BT.nil BT.nil))) (BT.node (o97 P) (BT.node (o163 P) (BT.node (o299 P) BT.nil BT.nil) (BT.node (o434 P) BT.nil BT.nil)) (BT.node (o233 P) (BT.node (o366 P) BT.nil BT.nil) (BT.node (o498 P) BT.nil BT.nil)))) (BT.node (o47 P) (BT.node (o81 P) (BT.node (o145 P) (BT.node (o283 P) BT.nil BT.nil) (BT.node (o416 P) BT.nil BT.nil)) (BT.node (o215 P) (BT.node (o350 P) BT.nil BT.nil) (BT.node (o482 P) BT.nil BT.nil))) (BT.node (o113 P) (BT.node (o181 P) (BT.node (o315 P) BT.nil BT.nil) (BT.node (o450 P) BT.nil BT.nil)) (BT.node (o249 P) (BT.node (o384 P) BT.nil BT.nil) (BT.node (o516 P) BT.nil BT.nil)))))) (BT.node (o0 P) (BT.node (o11 P) (BT.node (o27 P) (BT.node (o61 P) (BT.node (o125 P) (BT.node (o261 P) BT.nil BT.nil) (BT.node (o396 P) BT.nil BT.nil)) (BT.node (o193 P) (BT.node (o330 P) BT.nil BT.nil) (BT.node (o462 P) BT.nil BT.nil))) (BT.node (o93 P) (BT.node (o159 P) (BT.node (o295 P) BT.nil BT.nil) (BT.node (o428 P) BT.nil BT.nil)) (BT.node (o229 P) (BT.node (o362 P) BT.nil BT.nil) (BT.node (o494 P) BT.nil BT.nil)))) (BT.node (o43 P) (BT.node (o77 P) (BT.node (o141 P) (BT.node (o277 P) BT.nil BT.nil) (BT.node (o412 P) BT.nil BT.nil)) (BT.node (o211 P) (BT.node (o346 P) BT.nil BT.nil) (BT.node (o478 P) BT.nil BT.nil))) (BT.node (o109 P) (BT.node (o175 P) (BT.node (o311 P) BT.nil BT.nil) (BT.node (o446 P) BT.nil BT.nil)) (BT.node (o245 P) (BT.node (o378 P) BT.nil BT.nil) (BT.node (o512 P) BT.nil BT.nil))))) (BT.node (o19 P) (BT.node (o35 P) (BT.node (o69 P) (BT.node (o133 P) (BT.node (o269 P) BT.nil BT.nil) (BT.node (o404 P) BT.nil BT.nil)) (BT.node (o201 P) (BT.node (o338 P) BT.nil BT.nil) (BT.node (o470 P) BT.nil BT.nil))) (BT.node (o101 P) (BT.node (o167 P) (BT.node (o303 P) BT.nil BT.nil) (BT.node (o438 P) BT.nil BT.nil)) (BT.node (o237 P) (BT.node (o370 P) BT.nil BT.nil) (BT.node (o502 P) BT.nil BT.nil)))) (BT.node (o53 P) (BT.node (o85 P) (BT.node (o151 P) (BT.node (o287 P) BT.nil BT.nil) (BT.node (o420 P) BT.nil BT.nil)) (BT.node (o219 P) (BT.node (o354 P) BT.nil BT.nil) (BT.node (o486 P) BT.nil BT.nil))) (BT.node (o117 P) (BT.node (o185 P) (BT.node (o319 P) BT.nil BT.nil) (BT.node (o454 P) BT.nil BT.nil)) (BT.node (o253 P) (BT.node (o388 P) BT.nil BT.nil) BT.nil)))))) (BT.node (boot_o_5 P) (BT.node (boot_o_9 P) (BT.node (o9 P) (BT.node (o25 P) (BT.node (o59 P) (BT.node (o123 P) (BT.node (o259 P) BT.nil BT.nil) (BT.node (o394 P) BT.nil BT.nil)) (BT.node (o191 P) (BT.node (o328 P) BT.nil BT.nil) (BT.node (o460 P) BT.nil BT.nil))) (BT.node (o91 P) (BT.node (o157 P) (BT.node (o293 P) BT.nil BT.nil) (BT.node (o426 P) BT.nil BT.nil)) (BT.node (o225 P) (BT.node (o360 P) BT.nil BT.nil) (BT.node (o492 P) BT.nil BT.nil)))) (BT.node (o41 P) (BT.node (o75 P) (BT.node (o139 P) (BT.node (o275 P) BT.nil BT.nil) (BT.node (o410 P) BT.nil BT.nil)) (BT.node (o209 P) (BT.node (o344 P) BT.nil BT.nil) (BT.node (o476 P) BT.nil BT.nil))) (BT.node (o107 P) (BT.node (o173 P) (BT.node (o309 P) BT.nil BT.nil) (BT.node (o444 P) BT.nil BT.nil)) (BT.node (o243 P) (BT.node (o376 P) BT.nil BT.nil) (BT.node (o510 P) BT.nil BT.nil))))) (BT.node (o17 P) (BT.node (o33 P) (BT.node (o67 P) (BT.node (o131 P) (BT.node (o267 P) BT.nil BT.nil) (BT.node (o402 P) BT.nil BT.nil)) (BT.node (o199 P) (BT.node (o336 P) BT.nil BT.nil) (BT.node (o468 P) BT.nil BT.nil))) (BT.node (o99 P) (BT.node (o165 P) (BT.node (o301 P) BT.nil BT.nil) (BT.node (o436 P) BT.nil BT.nil)) (BT.node (o235 P) (BT.node (o368 P) BT.nil BT.nil) (BT.node (o500 P) BT.nil BT.nil)))) (BT.node (o51 P) (BT.node (o83 P) (BT.node (o147 P) (BT.node (o285 P) BT.nil BT.nil) (BT.node (o418 P) BT.nil BT.nil)) (BT.node (o217 P) (BT.node (o352 P) BT.nil BT.nil) (BT.node (o484 P) BT.nil BT.nil))) (BT.node (o115 P) (BT.node (o183 P) (BT.node (o317 P) BT.nil BT.nil) (BT.node (o452 P) BT.nil BT.nil)) (BT.node (o251 P) (BT.node (o386 P) BT.nil BT.nil) BT.nil))))) (BT.node (o2 P) (BT.node (o13 P) (BT.node (o29 P) (BT.node (o63 P) (BT.node (o127 P) (BT.node (o263 P) BT.nil BT.nil) (BT.node (o398 P) BT.nil BT.nil)) (BT.node (o195 P) (BT.node (o332 P) BT.nil BT.nil) (BT.node (o464 P) BT.nil BT.nil))) (BT.node (o95 P) (BT.node (o161 P) (BT.node (o297 P) BT.nil BT.nil) (BT.node (o430 P) BT.nil BT.nil)) (BT.node (o231 P) (BT.node (o364 P) BT.nil BT.nil) (BT.node (o496 P) BT.nil BT.nil)))) (BT.node (o45 P) (BT.node (o79 P) (BT.node (o143 P) (BT.node (o279 P) BT.nil BT.nil) (BT.node (o414 P) BT.nil BT.nil)) (BT.node (o213 P) (BT.node (o348 P) BT.nil BT.nil) (BT.node (o480 P) BT.nil BT.nil))) (BT.node (o111 P) (BT.node (o177 P) (BT.node (o313 P) BT.nil BT.nil) (BT.node (o448 P) BT.nil BT.nil)) (BT.node (o247 P) (BT.node (o382 P) BT.nil BT.nil) (BT.node (o514 P) BT.nil BT.nil))))) (BT.node (o21 P) (BT.node (o37 P) (BT.node (o71 P) (BT.node (o135 P) (BT.node (o271 P) BT.nil BT.nil) (BT.node (o406 P) BT.nil BT.nil)) (BT.node (o205 P) (BT.node (o340 P) BT.nil BT.nil) (BT.node (o472 P) BT.nil BT.nil))) (BT.node (o103 P) (BT.node (o169 P) (BT.node (o305 P) BT.nil BT.nil) (BT.node (o440 P) BT.nil BT.nil)) (BT.node (o239 P) (BT.node (o372 P) BT.nil BT.nil) (BT.node (o504 P) BT.nil BT.nil)))) (BT.node (o55 P) (BT.node (o87 P) (BT.node (o153 P) (BT.node (o289 P) BT.nil BT.nil) (BT.node (o422 P) BT.nil BT.nil)) (BT.node (o221 P) (BT.node (o356 P) BT.nil BT.nil) (BT.node (o488 P) BT.nil BT.nil))) (BT.node (o119 P) (BT.node (o187 P) (BT.node (o321 P) BT.nil BT.nil) (BT.node (o456 P) BT.nil BT.nil)) (BT.node (o255 P) (BT.node (o390 P) BT.nil BT.nil) BT.nil))))))) (BT.node (o4 P) (BT.node (boot_o_4 P) (BT.node (boot_o_8 P) (BT.node (o8 P) (BT.node (o24 P) (BT.node (o58 P) (BT.node (o122 P) (BT.node (o258 P) BT.nil BT.nil) (BT.node (o393 P) BT.nil BT.nil)) (BT.node (o190 P) (BT.node (o324 P) BT.nil BT.nil) (BT.node (o459 P) BT.nil BT.nil))) (BT.node (o90 P) (BT.node (o156 P) (BT.node (o292 P) BT.nil BT.nil) (BT.node (o425 P) BT.nil BT.nil)) (BT.node (o224 P) (BT.node (o359 P) BT.nil BT.nil) (BT.node (o491 P) BT.nil BT.nil)))) (BT.node (o40 P) (BT.node (o74 P) (BT.node (o138 P) (BT.node (o274 P) BT.nil BT.nil) (BT.node (o409 P) BT.nil BT.nil)) (BT.node (o208 P) (BT.node (o343 P) BT.nil BT.nil) (BT.node (o475 P) BT.nil BT.nil))) (BT.node (o106 P) (BT.node (o172 P) (BT.node (o308 P) BT.nil BT.nil) (BT.node (o443 P) BT.nil BT.nil)) (BT.node (o242 P) (BT.node (o375 P) BT.nil BT.nil) (BT.node (o507 P) BT.nil BT.nil))))) (BT.node (o16 P) (BT.node (o32 P) (BT.node (o66 P) (BT.node (o130 P) (BT.node (o266 P) BT.nil BT.nil) (BT.node (o401 P) BT.nil BT.nil)) (BT.node (o198 P) (BT.node (o335 P) BT.nil BT.nil) (BT.node (o467 P) BT.nil BT.nil))) (BT.node (o98 P) (BT.node (o164 P) (BT.node (o300 P) BT.nil BT.nil) (BT.node (o435 P) BT.nil BT.nil)) (BT.node (o234 P) (BT.node (o367 P) BT.nil BT.nil) (BT.node (o499 P) BT.nil BT.nil)))) (BT.node (o48 P) (BT.node (o82 P) (BT.node (o146 P) (BT.node (o284 P) BT.nil BT.nil) (BT.node (o417 P) BT.nil BT.nil)) (BT.node (o216 P) (BT.node (o351 P) BT.nil BT.nil) (BT.node (o483 P) BT.nil BT.nil))) (BT.node (o114 P) (BT.node (o182 P) (BT.node (o316 P) BT.nil BT.nil) (BT.node (o451 P) BT.nil BT.nil)) (BT.node (o250 P) (BT.node (o385 P) BT.nil BT.nil) BT.nil))))) (BT.node (o509 P) (BT.node (o12 P) (BT.node (o28 P) (BT.node (o62 P) (BT.node (o126 P) (BT.node (o262 P) BT.nil BT.nil) (BT.node (o397 P) BT.nil BT.nil)) (BT.node (o194 P) (BT.node (o331 P) BT.nil BT.nil) (BT.node (o463 P) BT.nil BT.nil))) (BT.node (o94 P) (BT.node (o160 P) (BT.node (o296 P) BT.nil BT.nil) (BT.node (o429 P) BT.nil BT.nil)) (BT.node (o230 P) (BT.node (o363 P) BT.nil BT.nil) (BT.node (o495 P) BT.nil BT.nil)))) (BT.node (o44 P) (BT.node (o78 P) (BT.node (o142 P) (BT.node (o278 P) BT.nil BT.nil) (BT.node (o413 P) BT.nil BT.nil)) (BT.node (o212 P) (BT.node (o347 P) BT.nil BT.nil) (BT.node (o479 P) BT.nil BT.nil))) (BT.node (o110 P) (BT.node (o176 P) (BT.node (o312 P) BT.nil BT.nil) (BT.node (o447 P) BT.nil BT.nil)) (BT.node (o246 P) (BT.node (o379 P) BT.nil BT.nil) (BT.node (o513 P) BT.nil BT.nil))))) (BT.node (o20 P) (BT.node (o36 P) (BT.node (o70 P) (BT.node (o134 P) (BT.node (o270 P) BT.nil BT.nil) (BT.node (o405 P) BT.nil BT.nil)) (BT.node (o202 P) (BT.node (o339 P) BT.nil BT.nil) (BT.node (o471 P) BT.nil BT.nil))) (BT.node (o102 P) (BT.node (o168 P) (BT.node (o304 P) BT.nil BT.nil) (BT.node (o439 P) BT.nil BT.nil)) (BT.node (o238 P) (BT.node (o371 P) BT.nil BT.nil) (BT.node (o503 P) BT.nil BT.nil)))) (BT.node (o54 P) (BT.node (o86 P) (BT.node (o152 P) (BT.node (o288 P) BT.nil BT.nil) (BT.node (o421 P) BT.nil BT.nil)) (BT.node (o220 P) (BT.node (o355 P) BT.nil BT.nil) (BT.node (o487 P) BT.nil BT.nil))) (BT.node (o118 P) (BT.node (o186 P) (BT.node (o327 P) BT.nil BT.nil) (BT.node (o455 P) BT.nil BT.nil)) (BT.node (o254 P) (BT.node (o389 P) BT.nil BT.nil) BT.nil)))))) (BT.node (boot_o_6 P) (BT.node (boot_o_10 P) (BT.node (o10 P) (BT.node (o26 P) (BT.node (o60 P) (BT.node (o124 P) (BT.node (o260 P) BT.nil BT.nil) (BT.node (o395 P) BT.nil BT.nil)) (BT.node (o192 P) (BT.node (o329 P) BT.nil BT.nil) (BT.node (o461 P) BT.nil BT.nil))) (BT.node (o92 P) (BT.node (o158 P) (BT.node (o294 P) BT.nil BT.nil) (BT.node (o427 P) BT.nil BT.nil)) (BT.node (o228 P) (BT.node (o361 P) BT.nil BT.nil) (BT.node (o493 P) BT.nil BT.nil)))) (BT.node (o42 P) (BT.node (o76 P) (BT.node (o140 P) (BT.node (o276 P) BT.nil BT.nil) (BT.node (o411 P) BT.nil BT.nil)) (BT.node (o210 P) (BT.node (o345 P) BT.nil BT.nil) (BT.node (o477 P) BT.nil BT.nil))) (BT.node (o108 P) (BT.node (o174 P) (BT.node (o310 P) BT.nil BT.nil) (BT.node (o445 P) BT.nil BT.nil)) (BT.node (o244 P) (BT.node (o377 P) BT.nil BT.nil) (BT.node (o511 P) BT.nil BT.nil))))) (BT.node (o18 P) (BT.node (o34 P) (BT.node (o68 P) (BT.node (o132 P) (BT.node (o268 P) BT.nil BT.nil) (BT.node (o403 P) BT.nil BT.nil)) (BT.node (o200 P) (BT.node (o337 P) BT.nil BT.nil) (BT.node (o469 P) BT.nil BT.nil))) (BT.node (o100 P) (BT.node (o166 P) (BT.node (o302 P) BT.nil BT.nil) (BT.node (o437 P) BT.nil BT.nil)) (BT.node (o236 P) (BT.node (o369 P) BT.nil BT.nil) (BT.node (o501 P) BT.nil BT.nil)))) (BT.node (o52 P) (BT.node (o84 P) (BT.node (o148 P) (BT.node (o286 P) BT.nil BT.nil) (BT.node (o419 P) BT.nil BT.nil)) (BT.node (o218 P) (BT.node (o353 P) BT.nil BT.nil) (BT.node (o485 P) BT.nil BT.nil))) (BT.node (o116 P) (BT.node (o184 P) (BT.node (o318 P) BT.nil BT.nil) (BT.node (o453 P) BT.nil BT.nil)) (BT.node (o252 P) (BT.node (o387 P) BT.nil BT.nil) BT.nil))))) (BT.node (o3 P) (BT.node (o14 P) (BT.node (o30 P) (BT.node (o64 P) (BT.node (o128 P) (BT.node (o264 P) BT.nil BT.nil) (BT.node (o399 P) BT.nil BT.nil)) (BT.node (o196 P) (BT.node (o333 P) BT.nil BT.nil) (BT.node (o465 P) BT.nil BT.nil))) (BT.node (o96 P) (BT.node (o162 P) (BT.node (o298 P) BT.nil BT.nil) (BT.node (o431 P) BT.nil BT.nil)) (BT.node (o232 P) (BT.node (o365 P) BT.nil BT.nil) (BT.node (o497 P) BT.nil BT.nil)))) (BT.node (o46 P) (BT.node (o80 P) (BT.node (o144 P) (BT.node (o282 P) BT.nil BT.nil) (BT.node (o415 P) BT.nil BT.nil)) (BT.node (o214 P) (BT.node (o349 P) BT.nil BT.nil) (BT.node (o481 P) BT.nil BT.nil))) (BT.node (o112 P) (BT.node (o178 P) (BT.node (o314 P) BT.nil BT.nil) (BT.node (o449 P) BT.nil BT.nil)) (BT.node (o248 P) (BT.node (o383 P) BT.nil BT.nil) (BT.node (o515 P) BT.nil BT.nil))))) (BT.node (o22 P) (BT.node (o38 P) (BT.node (o72 P) (BT.node (o136 P) (BT.node (o272 P) BT.nil BT.nil) (BT.node (o407 P) BT.nil BT.nil)) (BT.node (o206 P) (BT.node (o341 P) BT.nil BT.nil) (BT.node (o473 P) BT.nil BT.nil))) (BT.node (o104 P) (BT.node (o170 P) (BT.node (o306 P) BT.nil BT.nil) (BT.node (o441 P) BT.nil BT.nil)) (BT.node (o240 P) (BT.node (o373 P) BT.nil BT.nil) (BT.node (o505 P) BT.nil BT.nil)))) (BT.node (o56 P) (BT.node (o88 P) (BT.node (o154 P) (BT.node (o290 P) BT.nil BT.nil) (BT.node (o423 P) BT.nil BT.nil)) (BT.node (o222 P) (BT.node (o357 P) BT.nil BT.nil) (BT.node (o489 P) BT.nil BT.nil))) (BT.node (o120 P) (BT.node (o188 P) (BT.node (o322 P) BT.nil BT.nil) (BT.node (o457 P) BT.nil BT.nil)) (BT.node (o256 P) (BT.node (o391 P) BT.nil BT.nil) BT.nil))))))))
noncomputable def hpPre (P : Params) : Heap := Heap.mk #[boot_o_0 P, boot_o_1 P, boot_o_2 P, boot_o_3 P, boot_o_4 P, boot_o_5 P, boot_o_6 P, boot_o_7 P, boot_o_8 P, boot_o_9 P, boot_o_10 P, o0 P, o1 P, o2 P, o3 P] {}
noncomputable def hpFin (P : Params) : Heap := Heap.mk #[boot_o_0 P, boot_o_1 P, o4 P, o508 P, boot_o_4 P, boot_o_5 P, boot_o_6 P, boot_o_7 P, boot_o_8 P, boot_o_9 P, boot_o_10 P, o0 P, o509 P, o2 P, o3 P, o7 P, o8 P, o9 P, o10 P, o11 P, o12 P, o13 P, o14 P, o15 P, o16 P, o17 P, o18 P, o19 P, o20 P, o21 P, o22 P, o23 P, o24 P, o25 P, o26 P, o27 P, o28 P, o29 P, o30 P, o31 P, o32 P, o33 P, o34 P, o35 P, o36 P, o37 P, o38 P, o39 P, o40 P, o41 P, o42 P, o43 P, o44 P, o45 P, o46 P, o47 P, o48 P, o51 P, o52 P, o53 P, o54 P, o55 P, o56 P, o57 P, o58 P, o59 P, o60 P, o61 P, o62 P, o63 P, o64 P, o65 P, o66 P, o67 P, o68 P, o69 P, o70 P, o71 P, o72 P, o73 P, o74 P, o75 P, o76 P, o77 P, o78 P, o79 P, o80 P, o81 P, o82 P, o83 P, o84 P, o85 P, o86 P, o87 P, o88 P, o89 P, o90 P, o91 P, o92 P, o93 P, o94 P, o95 P, o96 P, o97 P, o98 P, o99 P, o100 P, o101 P, o102 P, o103 P, o104 P, o105 P, o106 P, o107 P, o108 P, o109 P, o110 P, o111 P, o112 P, o113 P, o114 P, o115 P, o116 P, o117 P, o118 P, o119 P, o120 P, o121 P, o122 P, o123 P, o124 P, o125 P, o126 P, o127 P, o128 P, o129 P, o130 P, o131 P, o132 P, o133 P, o134 P, o135 P, o136 P, o137 P, o138 P, o139 P, o140 P, o141 P, o142 P, o143 P, o144 P, o145 P, o146 P, o147 P, o148 P, o151 P, o152 P, o153 P, o154 P, o155 P, o156 P, o157 P, o158 P, o159 P, o160 P, o161 P, o162 P, o163 P, o164 P, o165 P, o166 P, o167 P, o168 P, o169 P, o170 P, o171 P, o172 P, o173 P, o174 P, o175 P, o176 P, o177 P, o178 P, o181 P, o182 P, o183 P, o184 P, o185 P, o186 P, o187 P, o188 P, o189 P, o190 P, o191 P, o192 P, o193 P, o194 P, o195 P, o196 P, o197 P, o198 P, o199 P, o200 P, o201 P, o202 P, o205 P, o206 P, o207 P, o208 P, o209 P, o210 P, o211 P, o212 P, o213 P, o214 P, o215 P, o216 P, o217 P, o218 P, o219 P, o220 P, o221 P, o222 P, o223 P, o224 P, o225 P, o228 P, o229 P, o230 P, o231 P, o232 P, o233 P, o234 P, o235 P, o236 P, o237 P, o238 P, o239 P, o240 P, o241 P, o242 P, o243 P, o244 P, o245 P, o246 P, o247 P, o248 P, o249 P, o250 P, o251 P, o252 P, o253 P, o254 P, o255 P, o256 P, o257 P, o258 P, o259 P, o260 P, o261 P, o262 P, o263 P, o264 P, o265 P, o266 P, o267 P, o268 P, o269 P, o270 P, o271 P, o272 P, o273 P, o274 P, o275 P, o276 P, o277 P, o278 P, o279 P, o282 P, o283 P, o284 P, o285 P, o286 P, o287 P, o288 P, o289 P, o290 P, o291 P, o292 P, o293 P, o294 P, o295 P, o296 P, o297 P, o298 P, o299 P, o300 P, o301 P, o302 P, o303 P, o304 P, o305 P, o306 P, o307 P, o308 P, o309 P, o310 P, o311 P, o312 P, o313 P, o314 P, o315 P, o316 P, o317 P, o318 P, o319 P, o327 P, o321 P, o322 P, o323 P, o324 P, o328 P, o329 P, o330 P, o331 P, o332 P, o333 P, o334 P, o335 P, o336 P, o337 P, o338 P, o339 P, o340 P, o341 P, o342 P, o343 P, o344 P, o345 P, o346 P, o347 P, o348 P, o349 P, o350 P, o351 P, o352 P, o353 P, o354 P, o355 P, o356 P, o357 P, o358 P, o359 P, o360 P, o361 P, o362 P, o363 P, o364 P, o365 P, o366 P, o367 P, o368 P, o369 P, o370 P, o371 P, o372 P, o373 P, o374 P, o375 P, o376 P, o377 P, o378 P, o379 P, o382 P, o383 P, o384 P, o385 P, o386 P, o387 P, o388 P, o389 P, o390 P, o391 P, o392 P, o393 P, o394 P, o395 P, o396 P, o397 P, o398 P, o399 P, o400 P, o401 P, o402 P, o403 P, o404 P, o405 P, o406 P, o407 P, o408 P, o409 P, o410 P, o411 P, o412 P, o413 P, o414 P, o415 P, o416 P, o417 P, o418 P, o419 P, o420 P, o421 P, o422 P, o423 P, o424 P, o425 P, o426 P, o427 P, o428 P, o429 P, o430 P, o431 P, o434 P, o435 P, o436 P, o437 P, o438 P, o439 P, o440 P, o441 P, o442 P, o443 P, o444 P, o445 P, o446 P, o447 P, o448 P, o449 P, o450 P, o451 P, o452 P, o453 P, o454 P, o455 P, o456 P, o457 P, o458 P, o459 P, o460 P, o461 P, o462 P, o463 P, o464 P, o465 P, o466 P, o467 P, o468 P, o469 P, o470 P, o471 P, o472 P, o473 P, o474 P, o475 P, o476 P, o477 P, o478 P, o479 P, o480 P, o481 P, o482 P, o483 P, o484 P, o485 P, o486 P, o487 P, o488 P, o489 P, o490 P, o491 P, o492 P, o493 P, o494 P, o495 P, o496 P, o497 P, o498 P, o499 P, o500 P, o501 P, o502 P, o503 P, o504 P, o505 P, o506 P, o507 P, o510 P, o511 P, o512 P, o513 P, o514 P, o515 P, o516 P] {}
noncomputable def K (P : Params) : Frag := (nat_lit 2, o4 P) :: (nat_lit 3, o508 P) :: (nat_lit 15, o7 P) :: (nat_lit 17, o9 P) :: (nat_lit 18, o10 P) :: (nat_lit 20, o12 P) :: (nat_lit 21, o13 P) :: (nat_lit 22, o14 P) :: (nat_lit 24, o16 P) :: (nat_lit 25, o17 P) :: (nat_lit 27, o19 P) :: (nat_lit 28, o20 P) :: (nat_lit 29, o21 P) :: (nat_lit 36, o28 P) :: (nat_lit 37, o29 P) :: (nat_lit 39, o31 P) :: (nat_lit 40, o32 P) :: (nat_lit 42, o34 P) :: (nat_lit 43, o35 P) :: (nat_lit 44, o36 P) :: (nat_lit 46, o38 P) :: (nat_lit 47, o39 P) :: (nat_lit 49, o41 P) :: (nat_lit 50, o42 P) :: (nat_lit 51, o43 P) :: (nat_lit 52, o44 P) :: (nat_lit 53, o45 P) :: (nat_lit 54, o46 P) :: (nat_lit 64, o58 P) :: (nat_lit 66, o60 P) :: (nat_lit 67, o61 P) :: (nat_lit 69, o63 P) :: (nat_lit 70, o64 P) :: (nat_lit 71, o65 P) :: (nat_lit 73, o67 P) :: (nat_lit 74, o68 P) :: (nat_lit 76, o70 P) :: (nat_lit 77, o71 P) :: (nat_lit 78, o72 P) :: (nat_lit 80, o74 P) :: (nat_lit 81, o75 P) :: (nat_lit 83, o77 P) :: (nat_lit 84, o78 P) :: (nat_lit 85, o79 P) :: (nat_lit 87, o81 P) :: (nat_lit 88, o82 P) :: (nat_lit 90, o84 P) :: (nat_lit 91, o85 P) :: (nat_lit 92, o86 P) :: (nat_lit 94, o88 P) :: (nat_lit 95, o89 P) :: (nat_lit 97, o91 P) :: (nat_lit 98, o92 P) :: (nat_lit 99, o93 P) :: (nat_lit 101, o95 P) :: (nat_lit 102, o96 P) :: (nat_lit 104, o98 P) :: (nat_lit 105, o99 P) :: (nat_lit 106, o100 P) :: (nat_lit 108, o102 P) :: (nat_lit 109, o103 P) :: (nat_lit 111, o105 P) :: (nat_lit 112, o106 P) :: (nat_lit 113, o107 P) :: (nat_lit 115, o109 P) :: (nat_lit 116, o110 P) :: (nat_lit 118, o112 P) :: (nat_lit 119, o113 P) :: (nat_lit 120, o114 P) :: (nat_lit 122, o116 P) :: (nat_lit 123, o117 P) :: (nat_lit 125, o119 P) :: (nat_lit 126, o120 P) :: (nat_lit 127, o121 P) :: (nat_lit 129, o123 P) :: (nat_lit 130, o124 P) :: (nat_lit 132, o126 P) :: (nat_lit 133, o127 P) :: (nat_lit 134, o128 P) :: (nat_lit 136, o130 P) :: (nat_lit 137, o131 P) :: (nat_lit 139, o133 P) :: (nat_lit 140, o134 P) :: (nat_lit 141, o135 P) :: (nat_lit 143, o137 P) :: (nat_lit 144, o138 P) :: (nat_lit 146, o140 P) :: (nat_lit 147, o141 P) :: (nat_lit 148, o142 P) :: (nat_lit 149, o143 P) :: (nat_lit 150, o144 P) :: (nat_lit 151, o145 P) :: (nat_lit 152, o146 P) :: (nat_lit 155, o151 P) :: (nat_lit 157, o153 P) :: (nat_lit 158, o154 P) :: (nat_lit 160, o156 P) :: (nat_lit 161, o157 P) :: (nat_lit 169, o165 P) :: (nat_lit 171, o167 P) :: (nat_lit 172, o168 P) :: (nat_lit 174, o170 P) :: (nat_lit 175, o171 P) :: (nat_lit 176, o172 P) :: (nat_lit 177, o173 P) :: (nat_lit 178, o174 P) :: (nat_lit 179, o175 P) :: (nat_lit 180, o176 P) :: (nat_lit 190, o188 P) :: (nat_lit 191, o189 P) :: (nat_lit 193, o191 P) :: (nat_lit 194, o192 P) :: (nat_lit 196, o194 P) :: (nat_lit 197, o195 P) :: (nat_lit 198, o196 P) :: (nat_lit 199, o197 P) :: (nat_lit 200, o198 P) :: (nat_lit 201, o199 P) :: (nat_lit 202, o200 P) :: (nat_lit 212, o212 P) :: (nat_lit 214, o214 P) :: (nat_lit 215, o215 P) :: (nat_lit 217, o217 P) :: (nat_lit 218, o218 P) :: (nat_lit 219, o219 P) :: (nat_lit 220, o220 P) :: (nat_lit 221, o221 P) :: (nat_lit 222, o222 P) :: (nat_lit 223, o223 P) :: (nat_lit 233, o235 P) :: (nat_lit 235, o237 P) :: (nat_lit 236, o238 P) :: (nat_lit 238, o240 P) :: (nat_lit 239, o241 P) :: (nat_lit 240, o242 P) :: (nat_lit 242, o244 P) :: (nat_lit 243, o245 P) :: (nat_lit 245, o247 P) :: (nat_lit 246, o248 P) :: (nat_lit 247, o249 P) :: (nat_lit 248, o250 P) :: (nat_lit 249, o251 P) :: (nat_lit 250, o252 P) :: (nat_lit 251, o253 P) :: (nat_lit 254, o256 P) :: (nat_lit 256, o258 P) :: (nat_lit 257, o259 P) :: (nat_lit 259, o261 P) :: (nat_lit 260, o262 P) :: (nat_lit 261, o263 P) :: (nat_lit 263, o265 P) :: (nat_lit 264, o266 P) :: (nat_lit 266, o268 P) :: (nat_lit 267, o269 P) :: (nat_lit 268, o270 P) :: (nat_lit 271, o273 P) :: (nat_lit 272, o274 P) :: (nat_lit 273, o275 P) :: (nat_lit 276, o278 P) :: (nat_lit 277, o279 P) :: (nat_lit 278, o282 P) :: (nat_lit 280, o284 P) :: (nat_lit 281, o285 P) :: (nat_lit 283, o287 P) :: (nat_lit 284, o288 P) :: (nat_lit 292, o296 P) :: (nat_lit 293, o297 P) :: (nat_lit 295, o299 P) :: (nat_lit 296, o300 P) :: (nat_lit 298, o302 P) :: (nat_lit 299, o303 P) :: (nat_lit 300, o304 P) :: (nat_lit 302, o306 P) :: (nat_lit 303, o307 P) :: (nat_lit 305, o309 P) :: (nat_lit 306, o310 P) :: (nat_lit 307, o311 P) :: (nat_lit 309, o313 P) :: (nat_lit 310, o314 P) :: (nat_lit 312, o316 P) :: (nat_lit 313, o317 P) :: (nat_lit 314, o318 P) :: (nat_lit 315, o319 P) :: (nat_lit 316, o327 P) :: (nat_lit 317, o321 P) :: (nat_lit 318, o322 P) :: (nat_lit 321, o328 P) :: (nat_lit 328, o335 P) :: (nat_lit 330, o337 P) :: (nat_lit 331, o338 P) :: (nat_lit 333, o340 P) :: (nat_lit 334, o341 P) :: (nat_lit 335, o342 P) :: (nat_lit 337, o344 P) :: (nat_lit 338, o345 P) :: (nat_lit 340, o347 P) :: (nat_lit 341, o348 P) :: (nat_lit 342, o349 P) :: (nat_lit 344, o351 P) :: (nat_lit 345, o352 P) :: (nat_lit 347, o354 P) :: (nat_lit 348, o355 P) :: (nat_lit 349, o356 P) :: (nat_lit 351, o358 P) :: (nat_lit 352, o359 P) :: (nat_lit 354, o361 P) :: (nat_lit 355, o362 P) :: (nat_lit 356, o363 P) :: (nat_lit 358, o365 P) :: (nat_lit 359, o366 P) :: (nat_lit 361, o368 P) :: (nat_lit 362, o369 P) :: (nat_lit 363, o370 P) :: (nat_lit 366, o373 P) :: (nat_lit 367, o374 P) :: (nat_lit 368, o375 P) :: (nat_lit 369, o376 P) :: (nat_lit 370, o377 P) :: (nat_lit 373, o382 P) :: (nat_lit 381, o390 P) :: (nat_lit 383, o392 P) :: (nat_lit 384, o393 P) :: (nat_lit 386, o395 P) :: (nat_lit 387, o396 P) :: (nat_lit 388, o397 P) :: (nat_lit 390, o399 P) :: (nat_lit 391, o400 P) :: (nat_lit 393, o402 P) :: (nat_lit 394, o403 P) :: (nat_lit 395, o404 P) :: (nat_lit 396, o405 P) :: (nat_lit 397, o406 P) :: (nat_lit 398, o407 P) :: (nat_lit 399, o408 P) :: (nat_lit 402, o411 P) :: (nat_lit 404, o413 P) :: (nat_lit 405, o414 P) :: (nat_lit 407, o416 P) :: (nat_lit 408, o417 P) :: (nat_lit 409, o418 P) :: (nat_lit 411, o420 P) :: (nat_lit 412, o421 P) :: (nat_lit 414, o423 P) :: (nat_lit 415, o424 P) :: (nat_lit 416, o425 P) :: (nat_lit 418, o427 P) :: (nat_lit 419, o428 P) :: (nat_lit 421, o430 P) :: (nat_lit 422, o431 P) :: (nat_lit 423, o434 P) :: (nat_lit 425, o436 P) :: (nat_lit 426, o437 P) :: (nat_lit 428, o439 P) :: (nat_lit 429, o440 P) :: (nat_lit 430, o441 P) :: (nat_lit 433, o444 P) :: (nat_lit 434, o445 P) :: (nat_lit 435, o446 P) :: (nat_lit 437, o448 P) :: (nat_lit 438, o449 P) :: (nat_lit 440, o451 P) :: (nat_lit 441, o452 P) :: (nat_lit 442, o453 P) :: (nat_lit 444, o455 P) :: (nat_lit 445, o456 P) :: (nat_lit 447, o458 P) :: (nat_lit 448, o459 P) :: (nat_lit 449, o460 P) :: (nat_lit 451, o462 P) :: (nat_lit 452, o463 P) :: (nat_lit 454, o465 P) :: (nat_lit 455, o466 P) :: (nat_lit 456, o467 P) :: (nat_lit 459, o470 P) :: (nat_lit 460, o471 P) :: (nat_lit 461, o472 P) :: (nat_lit 464, o475 P) :: (nat_lit 465, o476 P) :: (nat_lit 466, o477 P) :: (nat_lit 468, o479 P) :: (nat_lit 469, o480 P) :: (nat_lit 471, o482 P) :: (nat_lit 472, o483 P) :: (nat_lit 473, o484 P) :: (nat_lit 475, o486 P) :: (nat_lit 476, o487 P) :: (nat_lit 478, o489 P) :: (nat_lit 479, o490 P) :: (nat_lit 480, o491 P) :: (nat_lit 483, o494 P) :: (nat_lit 484, o495 P) :: (nat_lit 485, o496 P) :: (nat_lit 487, o498 P) :: (nat_lit 488, o499 P) :: (nat_lit 490, o501 P) :: (nat_lit 491, o502 P) :: (nat_lit 492, o503 P) :: (nat_lit 495, o506 P) :: (nat_lit 496, o507 P) :: (nat_lit 497, o510 P) :: (nat_lit 499, o512 P) :: (nat_lit 500, o513 P) :: (nat_lit 502, o515 P) :: (nat_lit 503, o516 P) :: []
noncomputable def kas : List Nat := [2, 3, 15, 17, 18, 20, 21, 22, 24, 25, 27, 28, 29, 36, 37, 39, 40, 42, 43, 44, 46, 47, 49, 50, 51, 52, 53, 54, 64, 66, 67, 69, 70, 71, 73, 74, 76, 77, 78, 80, 81, 83, 84, 85, 87, 88, 90, 91, 92, 94, 95, 97, 98, 99, 101, 102, 104, 105, 106, 108, 109, 111, 112, 113, 115, 116, 118, 119, 120, 122, 123, 125, 126, 127, 129, 130, 132, 133, 134, 136, 137, 139, 140, 141, 143, 144, 146, 147, 148, 149, 150, 151, 152, 155, 157, 158, 160, 161, 169, 171, 172, 174, 175, 176, 177, 178, 179, 180, 190, 191, 193, 194, 196, 197, 198, 199, 200, 201, 202, 212, 214, 215, 217, 218, 219, 220, 221, 222, 223, 233, 235, 236, 238, 239, 240, 242, 243, 245, 246, 247, 248, 249, 250, 251, 254, 256, 257, 259, 260, 261, 263, 264, 266, 267, 268, 271, 272, 273, 276, 277, 278, 280, 281, 283, 284, 292, 293, 295, 296, 298, 299, 300, 302, 303, 305, 306, 307, 309, 310, 312, 313, 314, 315, 316, 317, 318, 321, 328, 330, 331, 333, 334, 335, 337, 338, 340, 341, 342, 344, 345, 347, 348, 349, 351, 352, 354, 355, 356, 358, 359, 361, 362, 363, 366, 367, 368, 369, 370, 373, 381, 383, 384, 386, 387, 388, 390, 391, 393, 394, 395, 396, 397, 398, 399, 402, 404, 405, 407, 408, 409, 411, 412, 414, 415, 416, 418, 419, 421, 422, 423, 425, 426, 428, 429, 430, 433, 434, 435, 437, 438, 440, 441, 442, 444, 445, 447, 448, 449, 451, 452, 454, 455, 456, 459, 460, 461, 464, 465, 466, 468, 469, 471, 472, 473, 475, 476, 478, 479, 480, 483, 484, 485, 487, 488, 490, 491, 492, 495, 496, 497, 499, 500, 502, 503]
theorem kas_eq : ∀ P, kas = (K P).map (·.1) := fun _ => by kernel_rfl
noncomputable def bh : List Stmt := behindTheImports pw_nn0128_01
noncomputable def env1 : Env := { scope := pw_nn0128_01.main.scope, locals := mainNs, globals := mainNs, cells := [], code := Value.ref 13, frame := some 14 }
noncomputable def cd1 : Code := .body bh env1
theorem h_open (N : Nat) (hN : Nat.ble 600 N = true) : ∀ w : World, (fencedOpening treeTable pw_nn0128_01 w N).map (fun s => (s.heap, s.gens, s.drawn, s.toks)) = some (boot_heap w.params, Array.mk [], boot_drawn, boot_toks) :=
  boot_open (by kernel_rfl) hN (fun s => by kernel_rfl)
theorem h_pre : ∀ w : World, (fun os => topGo treeTable pw_nn0128_01 w 11 (some (Value.ref 6)) 12 ⟨boot_heap w.params, Array.mk [], boot_drawn, boot_toks, os⟩ (topStub pw_nn0128_01)) =
    fun os => some (⟨hpPre w.params, Array.mk [], {}, 187, os⟩, Thread.mk (denote treeTable cd1) cd1 ⟨0, 0, 0, 0⟩ [topFrame ⟨0, 0, 0, 0⟩]) := by
  intro w
  rw [PySem.W.Fast.te15667345088766844465, PySem.W.Fast.te14364793385576792824, PySem.W.Fast.te11892475500146522536]
  kernel_rfl
theorem h_block : ∀ w : World, (fun os => segRun treeTable pw_nn0128_01 w 11 (some (Value.ref 6)) 1 1 ⟨hpPre w.params, Array.mk [], {}, 187, os⟩ (blockOf bh env1 cd1 ⟨0, 0, 0, 0⟩ [topFrame ⟨0, 0, 0, 0⟩])) =
    fun os => some (Flow.next, SharedT.abs ⟨tr_block w.params, 15, {}, #[], {}, 187, os⟩, cd1, ⟨0, 0, 0, 0⟩) := by
  intro w
  rw [PySem.W.Fast.te14374325043358763698, PySem.W.Fast.te14364793385576792824]
  kernel_rfl
noncomputable def st0 : List Stmt := (bh.drop 0).take 6
theorem p0 : ∀ w : World, (fun os => segRunT treeTable pw_nn0128_01 w 11 (some (Value.ref 6)) 1 357 ⟨tr_block w.params, 15, {}, #[], {}, 187, os⟩ (piecesOf st0 env1 cd1 ⟨0, 0, 0, 0⟩ [topFrame ⟨0, 0, 0, 0⟩])) =
    fun os => some (Flow.next, ⟨tr_g0 w.params, 57, {}, #[], {}, 250, os⟩, cd1, ⟨18, 0, 18, 8⟩) := by
  intro w
  rw [PySem.W.Fast.te10110043849684766642, PySem.W.Fast.te14364793385576792824]
  kernel_rfl
noncomputable def st1 : List Stmt := (bh.drop 6).take 1
theorem p1 : ∀ w : World, (fun os => segRunT treeTable pw_nn0128_01 w 11 (some (Value.ref 6)) 1 572 ⟨tr_g0 w.params, 57, {}, #[], {}, 250, os⟩ (piecesOf st1 env1 cd1 ⟨18, 0, 18, 8⟩ [topFrame ⟨0, 0, 0, 0⟩])) =
    fun os => some (Flow.next, ⟨tr_g1 w.params, 155, {}, #[], {}, 364, os⟩, cd1, ⟨19, 0, 63, 16⟩) := by
  intro w
  rw [PySem.W.Fast.te10110043849684766642, PySem.W.Fast.te14364793385576792824]
  kernel_rfl
noncomputable def st2 : List Stmt := (bh.drop 7).take 4
theorem p2 : ∀ w : World, (fun os => segRunT treeTable pw_nn0128_01 w 11 (some (Value.ref 6)) 1 270 ⟨tr_g1 w.params, 155, {}, #[], {}, 364, os⟩ (piecesOf st2 env1 cd1 ⟨19, 0, 63, 16⟩ [topFrame ⟨0, 0, 0, 0⟩])) =
    fun os => some (Flow.next, ⟨tr_g2 w.params, 183, {}, #[], {}, 404, os⟩, cd1, ⟨68, 0, 71, 24⟩) := by
  intro w
  rw [PySem.W.Fast.te10110043849684766642, PySem.W.Fast.te14364793385576792824]
  kernel_rfl
noncomputable def st3 : List Stmt := (bh.drop 11).take 1
theorem p3 : ∀ w : World, (fun os => segRunT treeTable pw_nn0128_01 w 11 (some (Value.ref 6)) 1 226 ⟨tr_g2 w.params, 183, {}, #[], {}, 404, os⟩ (piecesOf st3 env1 cd1 ⟨68, 0, 71, 24⟩ [topFrame ⟨0, 0, 0, 0⟩])) =
    fun os => some (Flow.next, ⟨tr_g3 w.params, 205, {}, #[], {}, 435, os⟩, cd1, ⟨72, 0, 76, 28⟩) := by
  intro w
  rw [PySem.W.Fast.te10110043849684766642, PySem.W.Fast.te14364793385576792824]
  kernel_rfl
noncomputable def st4 : List Stmt := (bh.drop 12).take 1
theorem p4 : ∀ w : World, (fun os => segRunT treeTable pw_nn0128_01 w 11 (some (Value.ref 6)) 1 225 ⟨tr_g3 w.params, 205, {}, #[], {}, 435, os⟩ (piecesOf st4 env1 cd1 ⟨72, 0, 76, 28⟩ [topFrame ⟨0, 0, 0, 0⟩])) =
    fun os => some (Flow.next, ⟨tr_g4 w.params, 226, {}, #[], {}, 466, os⟩, cd1, ⟨77, 0, 81, 28⟩) := by
  intro w
  rw [PySem.W.Fast.te10110043849684766642, PySem.W.Fast.te14364793385576792824]
  kernel_rfl
noncomputable def st5 : List Stmt := (bh.drop 13).take 6
theorem p5 : ∀ w : World, (fun os => segRunT treeTable pw_nn0128_01 w 11 (some (Value.ref 6)) 1 377 ⟨tr_g4 w.params, 226, {}, #[], {}, 466, os⟩ (piecesOf st5 env1 cd1 ⟨77, 0, 81, 28⟩ [topFrame ⟨0, 0, 0, 0⟩])) =
    fun os => some (Flow.next, ⟨tr_g5 w.params, 278, {}, #[], {}, 532, os⟩, cd1, ⟨136, 0, 144, 13⟩) := by
  intro w
  rw [PySem.W.Fast.te10110043849684766642, PySem.W.Fast.te14364793385576792824]
  kernel_rfl
noncomputable def st6 : List Stmt := (bh.drop 19).take 2
theorem p6 : ∀ w : World, (fun os => segRunT treeTable pw_nn0128_01 w 11 (some (Value.ref 6)) 1 328 ⟨tr_g5 w.params, 278, {}, #[], {}, 532, os⟩ (piecesOf st6 env1 cd1 ⟨136, 0, 144, 13⟩ [topFrame ⟨0, 0, 0, 0⟩])) =
    fun os => some (Flow.next, ⟨tr_g6 w.params, 321, {}, #[], {}, 595, os⟩, cd1, ⟨158, 0, 176, 40⟩) := by
  intro w
  rw [PySem.W.Fast.te10110043849684766642, PySem.W.Fast.te14364793385576792824]
  kernel_rfl
noncomputable def st7 : List Stmt := (bh.drop 21).take 1
theorem p7 : ∀ w : World, (fun os => segRunT treeTable pw_nn0128_01 w 11 (some (Value.ref 6)) 1 402 ⟨tr_g6 w.params, 321, {}, #[], {}, 595, os⟩ (piecesOf st7 env1 cd1 ⟨158, 0, 176, 40⟩ [topFrame ⟨0, 0, 0, 0⟩])) =
    fun os => some (Flow.next, ⟨tr_g7 w.params, 373, {}, #[], {}, 658, os⟩, cd1, ⟨177, 0, 197, 49⟩) := by
  intro w
  rw [PySem.W.Fast.te10110043849684766642, PySem.W.Fast.te14364793385576792824]
  kernel_rfl
noncomputable def st8 : List Stmt := (bh.drop 22).take 6
theorem p8 : ∀ w : World, (fun os => segRunT treeTable pw_nn0128_01 w 11 (some (Value.ref 6)) 1 370 ⟨tr_g7 w.params, 373, {}, #[], {}, 658, os⟩ (piecesOf st8 env1 cd1 ⟨177, 0, 197, 49⟩ [topFrame ⟨0, 0, 0, 0⟩])) =
    fun os => some (Flow.next, ⟨tr_g8 w.params, 423, {}, #[], {}, 728, os⟩, cd1, ⟨218, 0, 227, 16⟩) := by
  intro w
  rw [PySem.W.Fast.te10110043849684766642, PySem.W.Fast.te14364793385576792824]
  kernel_rfl
noncomputable def st9 : List Stmt := (bh.drop 28).take 13
theorem p9 : ∀ w : World, (fun os => segRunT treeTable pw_nn0128_01 w 11 (some (Value.ref 6)) 1 373 ⟨tr_g8 w.params, 423, {}, #[], {}, 728, os⟩ (piecesOf st9 env1 cd1 ⟨218, 0, 227, 16⟩ [topFrame ⟨0, 0, 0, 0⟩])) =
    fun os => some (Flow.next, ⟨tr_g9 w.params, 497, {}, #[], {}, 839, os⟩, cd1, ⟨351, 0, 379, 113⟩) := by
  intro w
  rw [PySem.W.Fast.te10110043849684766642, PySem.W.Fast.te14364793385576792824]
  kernel_rfl
noncomputable def st10 : List Stmt := (bh.drop 41).take 1
theorem p10 : ∀ w : World, (fun os => segRunT treeTable pw_nn0128_01 w 11 (some (Value.ref 6)) 1 32 ⟨tr_g9 w.params, 497, {}, #[], {}, 839, os⟩ (piecesOf st10 env1 cd1 ⟨351, 0, 379, 113⟩ [topFrame ⟨0, 0, 0, 0⟩])) =
    fun os => some (Flow.next, ⟨tr_g10 w.params, 504, {}, #[], {}, 848, os⟩, cd1, ⟨380, 0, 385, 15⟩) := by
  intro w
  rw [PySem.W.Fast.te10110043849684766642, PySem.W.Fast.te14364793385576792824]
  kernel_rfl
theorem h_fin : ∀ w : World, (fun os => topRun treeTable pw_nn0128_01 w 11 (some (Value.ref 6)) 2 (SharedT.abs ⟨tr_g10 w.params, 504, {}, #[], {}, 848, os⟩) (Thread.mk (doneF Flow.next) cd1 ⟨380, 0, 385, 15⟩ [topFrame ⟨0, 0, 0, 0⟩])) =
    fun os => some ⟨hpFin w.params, Array.mk [], {}, 848, os⟩ := by
  intro w
  rw [PySem.W.Fast.te14082659384304107361, PySem.W.Fast.te14364793385576792824]
  kernel_rfl
theorem h_run : ∀ (w : World) (os : OsState), topRun treeTable pw_nn0128_01 w 11 (some (Value.ref 6)) 3547 ⟨boot_heap w.params, Array.mk [], boot_drawn, boot_toks, os⟩ (topStub pw_nn0128_01) = some ⟨hpFin w.params, Array.mk [], {}, 848, os⟩ := fun w os =>
  go_top (congrFun (h_pre w) os) (piece_block (congrFun (h_block w) os) (piece_app (segRun_of (congrFun (p0 w) os)) (piece_app (segRun_of (congrFun (p1 w) os)) (piece_app (segRun_of (congrFun (p2 w) os)) (piece_app (segRun_of (congrFun (p3 w) os)) (piece_app (segRun_of (congrFun (p4 w) os)) (piece_app (segRun_of (congrFun (p5 w) os)) (piece_app (segRun_of (congrFun (p6 w) os)) (piece_app (segRun_of (congrFun (p7 w) os)) (piece_app (segRun_of (congrFun (p8 w) os)) (piece_app (segRun_of (congrFun (p9 w) os)) (piece_app (segRun_of (congrFun (p10 w) os)) (piece_nil (congrFun (h_fin w) os))))))))))))))
noncomputable def vw : Program := view pw_nn0128_01 [0, 2, 4, 6, 7, 9, 10, 11, 12, 13, 14, 15, 16, 17, 18, 19, 20, 21, 23, 24, 25, 26, 27, 28, 29, 30, 32, 33, 34, 35, 36, 37, 38, 39, 40, 41]
noncomputable def lo : List Str := [Str.ofString "PaperError", Str.ofString "told_objects"]
noncomputable def Hk : Hook := kHook K kas kas_eq
noncomputable def Xt (s : Shared) : Bool := xlAt vw [] s && recOk (RowW.records rw_nn0128_01.row.toRowW) s
theorem h_size : ∀ w : World, ((boot_heap w.params).isNs mainGlobals && (Array.mk ([] : List GenState)).size == 0, (boot_heap w.params).objs.size, (boot_heap w.params).nsMap mainGlobals "__annotations__") = (true, 11, some (Value.ref 6)) := by
  intro w
  rw [PySem.W.Fast.te8920871248978507458]
  kernel_rfl
theorem k_stat : ∀ w : World, (fun os => (staticsOk (importedModules pw_nn0128_01.main.body) (boot_heap w.params) (hpFin w.params) && namesBound pw_nn0128_01 (hpFin w.params) && gensDone ⟨hpFin w.params, Array.mk [], {}, 848, os⟩ && laidKept (boot_heap w.params) (hpFin w.params))) = fun (_ : OsState) => true := by
  intro w
  rw [PySem.W.Fast.te5923862056798008813]
  kernel_rfl
theorem k_seen : ∀ w : World, (fun os => seen ((recsOf vw).map (·.name)) (ownsOf vw) [] { (⟨hpFin w.params, Array.mk [], {}, 848, os⟩ : Shared) with gens := #[] }) = fun (_ : OsState) => expectedOf vw := by
  intro w
  rw [PySem.W.Fast.te5160383126252970620, PySem.W.Fast.te3399658132070893891, PySem.W.Fast.te5991557255702980513]
  kernel_rfl
theorem k_blt : ∀ w : World, (fun (_ : OsState) => (hpFin w.params).bltView) = fun (_ : OsState) => bltViewBooted := by
  intro w
  kernel_rfl
theorem k_keys : ∀ w : World, (fun os => ((hpFin w.params).keysOk (looseW vw lo) ((recsOf vw).map (·.name)) ((litsOf vw).map (·.1)) ((clssOf vw (looseW vw lo)).map (·.name)) && (hpFin w.params).accountedOkI (importedModules pw_nn0128_01.main.body) && (hpFin w.params).isNs mainGlobals && (hpFin w.params).isNs builtinsNs && tablesOk vw (hpFin w.params) && Xt ⟨hpFin w.params, Array.mk [], {}, 848, os⟩ && (if (true : Bool) then (Array.mk ([] : List GenState)).size == 0 else !leftWithCleanup (Array.mk ([] : List GenState))))) = fun (_ : OsState) => true := by
  intro w
  rw [PySem.W.Fast.te10880121769531294198, PySem.W.Fast.te821141287760084731, PySem.W.Fast.te3399658132070893891, PySem.W.Fast.te7409074990110511671, PySem.W.Fast.te13664370479719496447, PySem.W.Fast.te14722251495701143533, PySem.W.Fast.te5923862056798008813, PySem.W.Fast.te10994771534591457954]
  kernel_rfl
theorem k_tabs : ∀ w : World, (fun os => tabsOk vw ⟨hpFin w.params, Array.mk [], {}, 848, os⟩) = fun (_ : OsState) => true := by
  intro w
  rw [PySem.W.Fast.te479339242167458305]
  kernel_rfl
theorem k_pinD : ∀ w : World, (fun os => pinSeenD vw (drecsOf vw) ⟨hpFin w.params, Array.mk [], {}, 848, os⟩) = fun (_ : OsState) => pinGoodD (drecsOf vw) := by
  intro w
  rw [PySem.W.Fast.te16090120013241838585, PySem.W.Fast.te3247288618530077131]
  kernel_rfl
theorem k_plE : ∀ w : World, (fun os => plainSeenE vw (looseW vw lo) ⟨hpFin w.params, Array.mk [], {}, 848, os⟩) = fun (_ : OsState) => plainGoodE vw (looseW vw lo) := by
  intro w
  rw [PySem.W.Fast.te2386780881361962483, PySem.W.Fast.te821141287760084731]
  kernel_rfl
theorem k_plD : ∀ w : World, (fun os => plainSeenD vw lo ⟨hpFin w.params, Array.mk [], {}, 848, os⟩) = fun (_ : OsState) => plainGoodD vw lo := by
  intro w
  rw [PySem.W.Fast.te11698064438423848299]
  kernel_rfl
theorem k_wide : ∀ w : World, (fun os => wideSeen vw ⟨hpFin w.params, Array.mk [], {}, 848, os⟩) = fun (_ : OsState) => wideGood vw := by
  intro w
  rw [PySem.W.Fast.te7317090234206586261]
  kernel_rfl
theorem k_cls : ∀ w : World, (fun os => clsSeenW vw lo ⟨hpFin w.params, Array.mk [], {}, 848, os⟩) = fun (_ : OsState) => clsGoodW vw lo := by
  intro w
  rw [PySem.W.Fast.te7369524293546568484]
  kernel_rfl
theorem k_obs : ∀ w : World, (fun os => Hk.obs ⟨hpFin w.params, Array.mk [], {}, 848, os⟩) = fun (_ : OsState) => Hk.val w := by
  intro w
  kernel_rfl
theorem h_looks : ∀ w : World, (fun os => ((staticsOk (importedModules pw_nn0128_01.main.body) (boot_heap w.params) (hpFin w.params) && namesBound pw_nn0128_01 (hpFin w.params) && gensDone ⟨hpFin w.params, Array.mk [], {}, 848, os⟩ && laidKept (boot_heap w.params) (hpFin w.params)),
    openSeen vw lo (importedModules pw_nn0128_01.main.body) Xt true ⟨hpFin w.params, Array.mk [], {}, 848, os⟩, Hk.obs ⟨hpFin w.params, Array.mk [], {}, 848, os⟩)) = fun (_ : OsState) => (true, openGood vw lo, Hk.val w) := fun w => funext fun os =>
  looks_pair (congrFun (k_stat w) os) (looks_pair (looks_pair (congrFun (k_seen w) os) (looks_pair (congrFun (k_blt w) os) (looks_pair (congrFun (k_keys w) os) (looks_pair (congrFun (k_tabs w) os) (looks_pair (congrFun (k_pinD w) os)
    (looks_pair (congrFun (k_plE w) os) (looks_pair (congrFun (k_plD w) os) (looks_pair (congrFun (k_wide w) os) (congrFun (k_cls w) os))))))))) (congrFun (k_obs w) os))
theorem left : LeftO pw_nn0128_01 vw lo Xt Hk.obs Hk.val 7168 true :=
  LeftO.of_pieces (H₀ := boot_heap) (H₁ := hpFin) (gs₀ := Array.mk []) (gs₁ := Array.mk []) (d₀ := boot_drawn) (d₁ := {}) (k₀ := boot_toks) (k₁ := 848) (m₀ := 11) (ann := some (Value.ref 6)) (M := 3547)
    (h_open 7168 rfl) h_size h_run rfl h_looks

set_option maxHeartbeats 8000000
@[reducible] noncomputable def PG : Program := rw_nn0128_01.row.prog
noncomputable abbrev TopV (mean : ExcName → Option Value) (mg mb : Str → Option Value) (h : Heap) : Prop := Top vw (looseW vw lo) mean mg mb h
noncomputable def CallC (w : World) (f : Addr) (dc uc : Nat) (vs : List Value) (news : List (Addr × Obj)) (Post : Value → List (Addr × Obj) → Prop) : Prop :=
  ∀ (dp un : Nat) (gd : Option (List Code)) (cn : Str) (cs : Scope) (a : Addr) (ccd : Value) (cl : List (Str × Addr)) (outer : List Env) (A₀ : Around) (base h₀ : Heap) (mean : ExcName → Option Value) (mg mb : Str → Option Value) (L : Addr) (m : Str → Option Value) (s : Shared) (Q E : Value → Shared → Prop),
    Below A₀ base outer h₀ → Fr h₀ L s.heap m → (K w.params).In h₀ → News h₀ L s.heap news → TopV mean mg mb h₀ → cs.kind = .function → dp + dc < recursionLimit → un + uc < cLine →
    (∀ r news' h' tk', Fr h₀ L h' m → News h₀ L h' news' → Post r news' → Q r { s with heap := h', toks := tk' }) →
    wpAny (model PG w) (ktrTop dp un gd cn cs L a ccd cl outer) (call (.ref f) vs) Q E s
noncomputable def RetP (g : Heap) (L : Addr) (s₁ : Shared) (Post : Value → List (Addr × Obj) → Prop) (fl : Flow) (s' : Shared) : Prop :=
  ∃ h' tk' m' news', s' = { s₁ with heap := h', toks := tk' } ∧ Fr g L h' m' ∧ News g L h' news' ∧ Post (match fl with | .ret v => v | _ => .none) news'
theorem RetP.intro {g : Heap} {L : Addr} {s₁ : Shared} {Post : Value → List (Addr × Obj) → Prop} {fl : Flow} {h' : Heap} {tk' : Nat} {m' : Str → Option Value} {news' : List (Addr × Obj)} (F : Fr g L h' m') (N : News g L h' news') (p : Post (match fl with | .ret v => v | _ => .none) news') : RetP g L s₁ Post fl { s₁ with heap := h', toks := tk' } := ⟨h', tk', m', news', rfl, F, N, p⟩
noncomputable def BodyC (w : World) (f : Addr) (qual : Str) (scope : Scope) (body : List Stmt) (cdv : Value) (dc uc : Nat) (binds : List (Str × Value)) (news : List (Addr × Obj)) (Post : Value → List (Addr × Obj) → Prop) : Prop :=
  ∀ (dp un : Nat) (gd : Option (List Code)) (outer : List Env) (A₀ : Around) (base g : Heap) (mean : ExcName → Option Value) (mg mb : Str → Option Value) (L : Addr) (s : Shared),
    Below A₀ base outer g → Fr g L s.heap (fun y => binds.reverse.lookup y) → (K w.params).In g → News g L s.heap news → TopV mean mg mb g → dp + dc < recursionLimit → un + uc < cLine →
    wpAny (model PG w) (ktrTop dp un gd qual scope L f cdv [] outer) (execs body (envOf qual scope L f cdv)) (RetP g L s Post) (fun _ _ => False) s
theorem enterC {w : World} {f : Addr} {name qual : Str} {params : Arguments} {body : List Stmt} {scope : Scope} {dV kV doc pm cdv ct : Value} {an : Option Addr} {oc : Value} {od : Option Addr} {osl : Array (Option Value)} {vs : List Value} {binds : List (Str × Value)} {news : List (Addr × Obj)} {Post : Value → List (Addr × Obj) → Prop} {dc uc : Nat}
    (ho : (K w.params).lookup f = some ⟨oc, od, .func (fnOf name qual params body scope dV kV doc pm an cdv ct), osl⟩) (hcd : codeIn (K w.params) cdv qual = true)
    (hbind : ∀ s : Shared, (K w.params).In s.heap → BindsTo s (fnOf name qual params body scope dV kV doc pm an cdv ct) ⟨vs, []⟩ binds) (hloc : ∀ y ∈ binds, scope.names.lookup y.1 = some .local)
    (hco : scope.isCoroutine = false) (hgen : scope.isGenerator = false) (hk : scope.kind = .function) (hcell : ∀ x ∈ scope.names, x.2 ≠ .cell)
    (h : BodyC w f qual scope body cdv dc uc binds news Post) : CallC w f (dc + 1) (uc + 3) vs news Post := by
  intro dp un gd cn cs a ccd cl outer A₀ base h₀ mean mg mb L m s Q E B F X N T hck hd hu hret
  refine wpAny_call ?_
  refine code_def (env := envX cn cs L a ccd cl) (outer := outer) B F X N T rfl rfl hck ho hcd (by show dp < recursionLimit; omega) (hbind s (X.keeps F.keep)) hloc (fun g L' h₁ FG F' N' B' X' T' => ?_) hco hgen hk hcell
  have hb := h (dp + 1) (un + 3) gd (envX cn cs L a ccd cl :: outer) _ base g mean mg mb L' { s with heap := h₁, toks := s.toks + binds.length } B' F' X' N' T' (by omega) (by omega)
  refine wpAny_mono hb (fun fl s' hr => ?_) (fun _ _ e => e.elim)
  obtain ⟨h', tk', m', news', rfl, F2, N2, p⟩ := hr
  refine leaveK_ F2 N2 fun kF kN => ?_
  exact hret _ _ _ _ kF kN p
noncomputable def BodyCC (w : World) (f : Addr) (qual : Str) (scope : Scope) (body : List Stmt) (cdv : Value) (dc uc : Nat) (binds : List (Str × Value)) (news : List (Addr × Obj)) (Post : Value → List (Addr × Obj) → Prop) : Prop :=
  ∀ (dp un : Nat) (gd : Option (List Code)) (outer : List Env) (A₀ : Around) (base g : Heap) (mean : ExcName → Option Value) (mg mb : Str → Option Value) (L : Addr) (s : Shared) (cells : List (Addr × Obj)),
    Below A₀ base outer g → Fr g L s.heap (bindL (envOfC qual scope L f cdv).kindOf binds fun _ => none) → (K w.params).In g → News g L s.heap (cells ++ news) → CellsAre (bindC (envOfC qual scope L f cdv).kindOf binds fun _ => none) (cellsFrom (L + 1) scope.names []) cells → (∀ p ∈ news, p.1 < L) → TopV mean mg mb g → dp + dc < recursionLimit → un + uc < cLine →
    wpAny (model PG w) (ktrTop dp un gd qual scope L f cdv (cellsFrom (L + 1) scope.names []) outer) (execs body (envOfC qual scope L f cdv)) (RetP g L s Post) (fun _ _ => False) s
theorem enterCC {w : World} {f : Addr} {name qual : Str} {params : Arguments} {body : List Stmt} {scope : Scope} {dV kV doc pm cdv ct : Value} {an : Option Addr} {oc : Value} {od : Option Addr} {osl : Array (Option Value)} {vs : List Value} {binds : List (Str × Value)} {news : List (Addr × Obj)} {Post : Value → List (Addr × Obj) → Prop} {dc uc : Nat}
    (ho : (K w.params).lookup f = some ⟨oc, od, .func (fnOf name qual params body scope dV kV doc pm an cdv ct), osl⟩) (hcd : codeIn (K w.params) cdv qual = true)
    (hbind : ∀ s : Shared, (K w.params).In s.heap → BindsTo s (fnOf name qual params body scope dV kV doc pm an cdv ct) ⟨vs, []⟩ binds) (hkind : (binds.all fun y => scope.names.lookup y.1 == some .local || scope.names.lookup y.1 == some .cell) = true)
    (hnd : ((cellsFrom 0 scope.names []).map (·.1)).Nodup)
    (hco : scope.isCoroutine = false) (hgen : scope.isGenerator = false) (hk : scope.kind = .function)
    (h : BodyCC w f qual scope body cdv dc uc binds news Post) : CallC w f (dc + 1) (uc + 3) vs news Post := by
  intro dp un gd cn cs a ccd cl outer A₀ base h₀ mean mg mb L m s Q E B F X N T hck hd hu hret
  refine wpAny_call ?_
  refine code_defC (env := envX cn cs L a ccd cl) (outer := outer) B F X N T rfl rfl hck ho hcd (by show dp < recursionLimit; omega) (hbind s (X.keeps F.keep)) hkind hnd (fun g L' h₁ tk cells FG F' N' Y B' X' T' l1 => ?_) hco hgen hk
  have hb := h (dp + 1) (un + 3) gd (envX cn cs L a ccd cl :: outer) _ base g mean mg mb L' { s with heap := h₁, toks := tk } cells B' F' X' N' Y l1 T' (by omega) (by omega)
  refine wpAny_mono hb (fun fl s' hr => ?_) (fun _ _ e => e.elim)
  obtain ⟨h', tk', m', news', rfl, F2, N2, p⟩ := hr
  refine leaveK_ F2 N2 fun kF kN => ?_
  exact hret _ _ _ _ kF kN p
theorem CallC.use {w : World} {f : Addr} {dc uc : Nat} {vs : List Value} {news news₀ : List (Addr × Obj)} {Post : Value → List (Addr × Obj) → Prop} (C : CallC w f dc uc vs news Post)
    {dp un : Nat} {gd : Option (List Code)} {cn : Str} {cs : Scope} {a : Addr} {ccd : Value} {cl : List (Str × Addr)} {outer : List Env} {A₀ : Around} {base h₀ : Heap} {mean : ExcName → Option Value} {mg mb : Str → Option Value} {L : Addr} {m : Str → Option Value} {s : Shared} {Q E : Value → Shared → Prop}
    (B : Below A₀ base outer h₀) (F : Fr h₀ L s.heap m) (X : (K w.params).In h₀) (N : News h₀ L s.heap news₀) (T : TopV mean mg mb h₀) (hsub : ∀ p ∈ news, p ∈ news₀) (hk : cs.kind = .function) (hd : dp + dc < recursionLimit) (hu : un + uc < cLine)
    (ret : ∀ r news' h' tk', Fr h₀ L h' m → News h₀ L h' news' → Post r news' → Q r { s with heap := h', toks := tk' }) :
    wpAny (model PG w) (ktrTop dp un gd cn cs L a ccd cl outer) (call (.ref f) vs) Q E s :=
  C _ _ _ _ _ _ _ _ _ _ _ _ _ _ _ _ _ _ _ _ B F X (fun p hp => N p (hsub p hp)) T hk hd hu ret
section arith
variable {prog : Program} {w : World} {A : Around} {E : Value → Shared → Prop} {s : Shared} {Q : Value → Shared → Prop} {a b : Int} {t u : Tok}
theorem mod_any (hb : 0 < b) (h : ∀ z, 0 ≤ z → z < b → Q (.int z s.toks) { s with toks := s.toks + 1 }) : wpAny (model prog w) A (binaryOp .Mod (.int a t) (.int b u)) Q E s := mod_int' (by omega) (h _ (fmod_lo a hb) (fmod_hi a hb))
theorem fdiv_any (ha : 0 ≤ a) (hb : 0 < b) (hb2 : b < 1073741824) (h : ∀ z, 0 ≤ z → z ≤ a → Q (.int z s.toks) { s with toks := s.toks + 1 }) : wpAny (model prog w) A (binaryOp .FloorDiv (.int a t) (.int b u)) Q E s := by
  refine floordiv_int (by omega) (h _ ?_ ?_) (Or.inl (PyProof.noPylong_small (by omega)))
  · rw [Int.fdiv_eq_ediv_of_nonneg _ (by omega)]; exact Int.ediv_nonneg ha (by omega)
  · rw [Int.fdiv_eq_ediv_of_nonneg _ (by omega)]; exact Int.ediv_le_self b ha
theorem pow_any {n : Int} (hn : 0 ≤ n) (hn2 : n ≤ 1000000) (ha : a.natAbs < 2 ^ 64) (h : ∀ z, z = a ^ n.toNat → Q (.int z s.toks) { s with toks := s.toks + 1 }) : wpAny (model prog w) A (binaryOp .Pow (.int a t) (.int n u)) Q E s := pow_int_small hn hn2 ha (h _ rfl)
end arith
@[reducible] noncomputable def F28 : {x : Arguments × List Stmt × Scope // x = fd 2} := by
  refine ⟨?x, ?h⟩
  case h => conv => rhs; whnf
theorem look_28 (P : Params) : (K P).lookup 28 = some ⟨.type "function", none, .func (fnOf (Str.ofString "is_there") (Str.ofString "is_there") F28.1.1 F28.1.2.1 F28.1.2.2 Value.none Value.none Value.none (Value.str (Str.ofString "paperhold.gather") 194) Option.none (Value.ref 27) Value.none), #[]⟩ := by kernel_rfl
theorem code_28 (P : Params) : codeIn (K P) (Value.ref 27) (Str.ofString "is_there") = true := by kernel_rfl
@[reducible] noncomputable def F43 : {x : Arguments × List Stmt × Scope // x = md 4 0} := by
  refine ⟨?x, ?h⟩
  case h => conv => rhs; whnf
theorem look_43 (P : Params) : (K P).lookup 43 = some ⟨.type "function", none, .func (fnOf (Str.ofString "__init__") (Str.ofString "PaperError.__init__") F43.1.1 F43.1.2.1 F43.1.2.2 (Value.ref 36) Value.none Value.none (Value.str (Str.ofString "paperhold.errors") 206) Option.none (Value.ref 42) Value.none), #[]⟩ := by kernel_rfl
theorem code_43 (P : Params) : codeIn (K P) (Value.ref 42) (Str.ofString "PaperError.__init__") = true := by kernel_rfl
@[reducible] noncomputable def F70 : {x : Arguments × List Stmt × Scope // x = md 6 0} := by
  refine ⟨?x, ?h⟩
  case h => conv => rhs; whnf
theorem look_70 (P : Params) : (K P).lookup 70 = some ⟨.type "function", none, .func (fnOf (Str.ofString "__init__") (Str.ofString "Decimal.__init__") F70.1.1 F70.1.2.1 F70.1.2.2 Value.none Value.none Value.none (Value.str (Str.ofString "paperhold.decimals") 248) Option.none (Value.ref 69) Value.none), #[]⟩ := by kernel_rfl
theorem code_70 (P : Params) : codeIn (K P) (Value.ref 69) (Str.ofString "Decimal.__init__") = true := by kernel_rfl
@[reducible] noncomputable def F133 : {x : Arguments × List Stmt × Scope // x = md 6 9} := by
  refine ⟨?x, ?h⟩
  case h => conv => rhs; whnf
theorem look_133 (P : Params) : (K P).lookup 133 = some ⟨.type "function", none, .func (fnOf (Str.ofString "told") (Str.ofString "Decimal.told") F133.1.1 F133.1.2.1 F133.1.2.2 Value.none Value.none Value.none (Value.str (Str.ofString "paperhold.decimals") 248) Option.none (Value.ref 132) Value.none), #[]⟩ := by kernel_rfl
theorem code_133 (P : Params) : codeIn (K P) (Value.ref 132) (Str.ofString "Decimal.told") = true := by kernel_rfl
@[reducible] noncomputable def F175 : {x : Arguments × List Stmt × Scope // x = md 10 0} := by
  refine ⟨?x, ?h⟩
  case h => conv => rhs; whnf
theorem look_175 (P : Params) : (K P).lookup 175 = some ⟨.type "function", none, .func (fnOf (Str.ofString "__init__") (Str.ofString "Name.__init__") F175.1.1 F175.1.2.1 F175.1.2.2 Value.none Value.none Value.none (Value.str (Str.ofString "paperhold.objects") 371) Option.none (Value.ref 174) Value.none), #[]⟩ := by kernel_rfl
theorem code_175 (P : Params) : codeIn (K P) (Value.ref 174) (Str.ofString "Name.__init__") = true := by kernel_rfl
@[reducible] noncomputable def F197 : {x : Arguments × List Stmt × Scope // x = md 11 0} := by
  refine ⟨?x, ?h⟩
  case h => conv => rhs; whnf
theorem look_197 (P : Params) : (K P).lookup 197 = some ⟨.type "function", none, .func (fnOf (Str.ofString "__init__") (Str.ofString "String.__init__") F197.1.1 F197.1.2.1 F197.1.2.2 (Value.ref 190) Value.none Value.none (Value.str (Str.ofString "paperhold.objects") 371) Option.none (Value.ref 196) Value.none), #[]⟩ := by kernel_rfl
theorem code_197 (P : Params) : codeIn (K P) (Value.ref 196) (Str.ofString "String.__init__") = true := by kernel_rfl
@[reducible] noncomputable def F218 : {x : Arguments × List Stmt × Scope // x = md 12 0} := by
  refine ⟨?x, ?h⟩
  case h => conv => rhs; whnf
theorem look_218 (P : Params) : (K P).lookup 218 = some ⟨.type "function", none, .func (fnOf (Str.ofString "__init__") (Str.ofString "Stream.__init__") F218.1.1 F218.1.2.1 F218.1.2.2 Value.none Value.none Value.none (Value.str (Str.ofString "paperhold.objects") 371) Option.none (Value.ref 217) Value.none), #[]⟩ := by kernel_rfl
theorem code_218 (P : Params) : codeIn (K P) (Value.ref 217) (Str.ofString "Stream.__init__") = true := by kernel_rfl
@[reducible] noncomputable def F239 : {x : Arguments × List Stmt × Scope // x = md 13 0} := by
  refine ⟨?x, ?h⟩
  case h => conv => rhs; whnf
theorem look_239 (P : Params) : (K P).lookup 239 = some ⟨.type "function", none, .func (fnOf (Str.ofString "__init__") (Str.ofString "Reference.__init__") F239.1.1 F239.1.2.1 F239.1.2.2 Value.none Value.none Value.none (Value.str (Str.ofString "paperhold.objects") 371) Option.none (Value.ref 238) Value.none), #[]⟩ := by kernel_rfl
theorem code_239 (P : Params) : codeIn (K P) (Value.ref 238) (Str.ofString "Reference.__init__") = true := by kernel_rfl
@[reducible] noncomputable def F246 : {x : Arguments × List Stmt × Scope // x = md 13 1} := by
  refine ⟨?x, ?h⟩
  case h => conv => rhs; whnf
theorem look_246 (P : Params) : (K P).lookup 246 = some ⟨.type "function", none, .func (fnOf (Str.ofString "pair") (Str.ofString "Reference.pair") F246.1.1 F246.1.2.1 F246.1.2.2 Value.none Value.none Value.none (Value.str (Str.ofString "paperhold.objects") 371) Option.none (Value.ref 245) Value.none), #[]⟩ := by kernel_rfl
theorem code_246 (P : Params) : codeIn (K P) (Value.ref 245) (Str.ofString "Reference.pair") = true := by kernel_rfl
@[reducible] noncomputable def F260 : {x : Arguments × List Stmt × Scope // x = fd 14} := by
  refine ⟨?x, ?h⟩
  case h => conv => rhs; whnf
theorem look_260 (P : Params) : (K P).lookup 260 = some ⟨.type "function", none, .func (fnOf (Str.ofString "kind_of") (Str.ofString "kind_of") F260.1.1 F260.1.2.1 F260.1.2.2 Value.none Value.none Value.none (Value.str (Str.ofString "paperhold.objects") 371) Option.none (Value.ref 259) Value.none), #[]⟩ := by kernel_rfl
theorem code_260 (P : Params) : codeIn (K P) (Value.ref 259) (Str.ofString "kind_of") = true := by kernel_rfl
@[reducible] noncomputable def F267 : {x : Arguments × List Stmt × Scope // x = fd 15} := by
  refine ⟨?x, ?h⟩
  case h => conv => rhs; whnf
theorem look_267 (P : Params) : (K P).lookup 267 = some ⟨.type "function", none, .func (fnOf (Str.ofString "told_plain") (Str.ofString "told_plain") F267.1.1 F267.1.2.1 F267.1.2.2 Value.none Value.none Value.none (Value.str (Str.ofString "paperhold.objects") 371) Option.none (Value.ref 266) Value.none), #[]⟩ := by kernel_rfl
theorem code_267 (P : Params) : codeIn (K P) (Value.ref 266) (Str.ofString "told_plain") = true := by kernel_rfl
@[reducible] noncomputable def F272 : {x : Arguments × List Stmt × Scope // x = fd 16} := by
  refine ⟨?x, ?h⟩
  case h => conv => rhs; whnf
theorem look_272 (P : Params) : (K P).lookup 272 = some ⟨.type "function", none, .func (fnOf (Str.ofString "told") (Str.ofString "told") F272.1.1 F272.1.2.1 F272.1.2.2 Value.none Value.none Value.none (Value.str (Str.ofString "paperhold.objects") 371) Option.none (Value.ref 271) Value.none), #[]⟩ := by kernel_rfl
theorem code_272 (P : Params) : codeIn (K P) (Value.ref 271) (Str.ofString "told") = true := by kernel_rfl
@[reducible] noncomputable def F277 : {x : Arguments × List Stmt × Scope // x = fd 18} := by
  refine ⟨?x, ?h⟩
  case h => conv => rhs; whnf
theorem look_277 (P : Params) : (K P).lookup 277 = some ⟨.type "function", none, .func (fnOf (Str.ofString "parts_of") (Str.ofString "parts_of") F277.1.1 F277.1.2.1 F277.1.2.2 Value.none Value.none Value.none (Value.str (Str.ofString "paperhold.objects") 371) Option.none (Value.ref 276) Value.none), #[]⟩ := by kernel_rfl
theorem code_277 (P : Params) : codeIn (K P) (Value.ref 276) (Str.ofString "parts_of") = true := by kernel_rfl
@[reducible] noncomputable def F284 : {x : Arguments × List Stmt × Scope // x = fd 19} := by
  refine ⟨?x, ?h⟩
  case h => conv => rhs; whnf
theorem look_284 (P : Params) : (K P).lookup 284 = some ⟨.type "function", none, .func (fnOf (Str.ofString "references_in") (Str.ofString "references_in") F284.1.1 F284.1.2.1 F284.1.2.2 Value.none Value.none Value.none (Value.str (Str.ofString "paperhold.objects") 371) Option.none (Value.ref 283) Value.none), #[]⟩ := by kernel_rfl
theorem code_284 (P : Params) : codeIn (K P) (Value.ref 283) (Str.ofString "references_in") = true := by kernel_rfl
@[reducible] noncomputable def F299 : {x : Arguments × List Stmt × Scope // x = md 20 0} := by
  refine ⟨?x, ?h⟩
  case h => conv => rhs; whnf
theorem look_299 (P : Params) : (K P).lookup 299 = some ⟨.type "function", none, .func (fnOf (Str.ofString "__init__") (Str.ofString "Lookup.__init__") F299.1.1 F299.1.2.1 F299.1.2.2 (Value.ref 292) Value.none Value.none (Value.str (Str.ofString "paperhold.objects") 371) Option.none (Value.ref 298) Value.none), #[]⟩ := by kernel_rfl
theorem code_299 (P : Params) : codeIn (K P) (Value.ref 298) (Str.ofString "Lookup.__init__") = true := by kernel_rfl
@[reducible] noncomputable def F306 : {x : Arguments × List Stmt × Scope // x = md 20 1} := by
  refine ⟨?x, ?h⟩
  case h => conv => rhs; whnf
theorem look_306 (P : Params) : (K P).lookup 306 = some ⟨.type "function", none, .func (fnOf (Str.ofString "fetch") (Str.ofString "Lookup.fetch") F306.1.1 F306.1.2.1 F306.1.2.2 Value.none Value.none Value.none (Value.str (Str.ofString "paperhold.objects") 371) Option.none (Value.ref 305) Value.none), #[]⟩ := by kernel_rfl
theorem code_306 (P : Params) : codeIn (K P) (Value.ref 305) (Str.ofString "Lookup.fetch") = true := by kernel_rfl
@[reducible] noncomputable def F313 : {x : Arguments × List Stmt × Scope // x = md 20 2} := by
  refine ⟨?x, ?h⟩
  case h => conv => rhs; whnf
theorem look_313 (P : Params) : (K P).lookup 313 = some ⟨.type "function", none, .func (fnOf (Str.ofString "get") (Str.ofString "Lookup.get") F313.1.1 F313.1.2.1 F313.1.2.2 Value.none Value.none Value.none (Value.str (Str.ofString "paperhold.objects") 371) Option.none (Value.ref 312) Value.none), #[]⟩ := by kernel_rfl
theorem code_313 (P : Params) : codeIn (K P) (Value.ref 312) (Str.ofString "Lookup.get") = true := by kernel_rfl
@[reducible] noncomputable def F334 : {x : Arguments × List Stmt × Scope // x = md 21 0} := by
  refine ⟨?x, ?h⟩
  case h => conv => rhs; whnf
theorem look_334 (P : Params) : (K P).lookup 334 = some ⟨.type "function", none, .func (fnOf (Str.ofString "put") (Str.ofString "Shelf.put") F334.1.1 F334.1.2.1 F334.1.2.2 Value.none Value.none Value.none (Value.str (Str.ofString "paperhold.objects") 371) Option.none (Value.ref 333) Value.none), #[]⟩ := by kernel_rfl
theorem code_334 (P : Params) : codeIn (K P) (Value.ref 333) (Str.ofString "Shelf.put") = true := by kernel_rfl
@[reducible] noncomputable def F355 : {x : Arguments × List Stmt × Scope // x = md 21 3} := by
  refine ⟨?x, ?h⟩
  case h => conv => rhs; whnf
theorem look_355 (P : Params) : (K P).lookup 355 = some ⟨.type "function", none, .func (fnOf (Str.ofString "numbers") (Str.ofString "Shelf.numbers") F355.1.1 F355.1.2.1 F355.1.2.2 Value.none Value.none Value.none (Value.str (Str.ofString "paperhold.objects") 371) Option.none (Value.ref 354) Value.none), #[]⟩ := by kernel_rfl
theorem code_355 (P : Params) : codeIn (K P) (Value.ref 354) (Str.ofString "Shelf.numbers") = true := by kernel_rfl
@[reducible] noncomputable def F362 : {x : Arguments × List Stmt × Scope // x = md 21 4} := by
  refine ⟨?x, ?h⟩
  case h => conv => rhs; whnf
theorem look_362 (P : Params) : (K P).lookup 362 = some ⟨.type "function", none, .func (fnOf (Str.ofString "root") (Str.ofString "Shelf.root") F362.1.1 F362.1.2.1 F362.1.2.2 Value.none Value.none Value.none (Value.str (Str.ofString "paperhold.objects") 371) Option.none (Value.ref 361) Value.none), #[]⟩ := by kernel_rfl
theorem code_362 (P : Params) : codeIn (K P) (Value.ref 361) (Str.ofString "Shelf.root") = true := by kernel_rfl
@[reducible] noncomputable def F367 : {x : Arguments × List Stmt × Scope // x = md 21 5} := by
  refine ⟨?x, ?h⟩
  case h => conv => rhs; whnf
theorem look_367 (P : Params) : (K P).lookup 367 = some ⟨.type "function", none, .func (fnOf (Str.ofString "told") (Str.ofString "Shelf.told") F367.1.1 F367.1.2.1 F367.1.2.2 Value.none Value.none Value.none (Value.str (Str.ofString "paperhold.objects") 371) Option.none (Value.ref 366) Value.none), #[]⟩ := by kernel_rfl
theorem code_367 (P : Params) : codeIn (K P) (Value.ref 366) (Str.ofString "Shelf.told") = true := by kernel_rfl
@[reducible] noncomputable def F387 : {x : Arguments × List Stmt × Scope // x = md 24 0} := by
  refine ⟨?x, ?h⟩
  case h => conv => rhs; whnf
theorem look_387 (P : Params) : (K P).lookup 387 = some ⟨.type "function", none, .func (fnOf (Str.ofString "__init__") (Str.ofString "Finding.__init__") F387.1.1 F387.1.2.1 F387.1.2.2 Value.none Value.none Value.none (Value.str (Str.ofString "paperhold.checker") 658) Option.none (Value.ref 386) Value.none), #[]⟩ := by kernel_rfl
theorem code_387 (P : Params) : codeIn (K P) (Value.ref 386) (Str.ofString "Finding.__init__") = true := by kernel_rfl
@[reducible] noncomputable def F394 : {x : Arguments × List Stmt × Scope // x = md 24 1} := by
  refine ⟨?x, ?h⟩
  case h => conv => rhs; whnf
theorem look_394 (P : Params) : (K P).lookup 394 = some ⟨.type "function", none, .func (fnOf (Str.ofString "told") (Str.ofString "Finding.told") F394.1.1 F394.1.2.1 F394.1.2.2 Value.none Value.none Value.none (Value.str (Str.ofString "paperhold.checker") 658) Option.none (Value.ref 393) Value.none), #[]⟩ := by kernel_rfl
theorem code_394 (P : Params) : codeIn (K P) (Value.ref 393) (Str.ofString "Finding.told") = true := by kernel_rfl
@[reducible] noncomputable def F408 : {x : Arguments × List Stmt × Scope // x = fd 25} := by
  refine ⟨?x, ?h⟩
  case h => conv => rhs; whnf
theorem look_408 (P : Params) : (K P).lookup 408 = some ⟨.type "function", none, .func (fnOf (Str.ofString "check_root") (Str.ofString "check_root") F408.1.1 F408.1.2.1 F408.1.2.2 Value.none Value.none Value.none (Value.str (Str.ofString "paperhold.checker") 658) Option.none (Value.ref 407) Value.none), #[]⟩ := by kernel_rfl
theorem code_408 (P : Params) : codeIn (K P) (Value.ref 407) (Str.ofString "check_root") = true := by kernel_rfl
@[reducible] noncomputable def F415 : {x : Arguments × List Stmt × Scope // x = fd 26} := by
  refine ⟨?x, ?h⟩
  case h => conv => rhs; whnf
theorem look_415 (P : Params) : (K P).lookup 415 = some ⟨.type "function", none, .func (fnOf (Str.ofString "name_of") (Str.ofString "name_of") F415.1.1 F415.1.2.1 F415.1.2.2 Value.none Value.none Value.none (Value.str (Str.ofString "paperhold.checker") 658) Option.none (Value.ref 414) Value.none), #[]⟩ := by kernel_rfl
theorem code_415 (P : Params) : codeIn (K P) (Value.ref 414) (Str.ofString "name_of") = true := by kernel_rfl
@[reducible] noncomputable def F422 : {x : Arguments × List Stmt × Scope // x = fd 27} := by
  refine ⟨?x, ?h⟩
  case h => conv => rhs; whnf
theorem look_422 (P : Params) : (K P).lookup 422 = some ⟨.type "function", none, .func (fnOf (Str.ofString "check_references") (Str.ofString "check_references") F422.1.1 F422.1.2.1 F422.1.2.2 Value.none Value.none Value.none (Value.str (Str.ofString "paperhold.checker") 658) Option.none (Value.ref 421) Value.none), #[]⟩ := by kernel_rfl
theorem code_422 (P : Params) : codeIn (K P) (Value.ref 421) (Str.ofString "check_references") = true := by kernel_rfl
@[reducible] noncomputable def F429 : {x : Arguments × List Stmt × Scope // x = fd 28} := by
  refine ⟨?x, ?h⟩
  case h => conv => rhs; whnf
theorem look_429 (P : Params) : (K P).lookup 429 = some ⟨.type "function", none, .func (fnOf (Str.ofString "check_lengths") (Str.ofString "check_lengths") F429.1.1 F429.1.2.1 F429.1.2.2 Value.none Value.none Value.none (Value.str (Str.ofString "paperhold.checker") 658) Option.none (Value.ref 428) Value.none), #[]⟩ := by kernel_rfl
theorem code_429 (P : Params) : codeIn (K P) (Value.ref 428) (Str.ofString "check_lengths") = true := by kernel_rfl
@[reducible] noncomputable def F434 : {x : Arguments × List Stmt × Scope // x = fd 29} := by
  refine ⟨?x, ?h⟩
  case h => conv => rhs; whnf
theorem look_434 (P : Params) : (K P).lookup 434 = some ⟨.type "function", none, .func (fnOf (Str.ofString "is_box") (Str.ofString "is_box") F434.1.1 F434.1.2.1 F434.1.2.2 Value.none Value.none Value.none (Value.str (Str.ofString "paperhold.checker") 658) Option.none (Value.ref 433) Value.none), #[]⟩ := by kernel_rfl
theorem code_434 (P : Params) : codeIn (K P) (Value.ref 433) (Str.ofString "is_box") = true := by kernel_rfl
@[reducible] noncomputable def F441 : {x : Arguments × List Stmt × Scope // x = fd 30} := by
  refine ⟨?x, ?h⟩
  case h => conv => rhs; whnf
theorem look_441 (P : Params) : (K P).lookup 441 = some ⟨.type "function", none, .func (fnOf (Str.ofString "field_findings") (Str.ofString "field_findings") F441.1.1 F441.1.2.1 F441.1.2.2 Value.none Value.none Value.none (Value.str (Str.ofString "paperhold.checker") 658) Option.none (Value.ref 440) Value.none), #[]⟩ := by kernel_rfl
theorem code_441 (P : Params) : codeIn (K P) (Value.ref 440) (Str.ofString "field_findings") = true := by kernel_rfl
@[reducible] noncomputable def F448 : {x : Arguments × List Stmt × Scope // x = fd 32} := by
  refine ⟨?x, ?h⟩
  case h => conv => rhs; whnf
theorem look_448 (P : Params) : (K P).lookup 448 = some ⟨.type "function", none, .func (fnOf (Str.ofString "_law_pen") (Str.ofString "_law_pen") F448.1.1 F448.1.2.1 F448.1.2.2 Value.none Value.none Value.none (Value.str (Str.ofString "law_nn0128_01") 758) Option.none (Value.ref 447) Value.none), #[]⟩ := by kernel_rfl
theorem code_448 (P : Params) : codeIn (K P) (Value.ref 447) (Str.ofString "_law_pen") = true := by kernel_rfl
@[reducible] noncomputable def F455 : {x : Arguments × List Stmt × Scope // x = fd 33} := by
  refine ⟨?x, ?h⟩
  case h => conv => rhs; whnf
theorem look_455 (P : Params) : (K P).lookup 455 = some ⟨.type "function", none, .func (fnOf (Str.ofString "_law_draw") (Str.ofString "_law_draw") F455.1.1 F455.1.2.1 F455.1.2.2 Value.none Value.none Value.none (Value.str (Str.ofString "law_nn0128_01") 758) Option.none (Value.ref 454) Value.none), #[]⟩ := by kernel_rfl
theorem code_455 (P : Params) : codeIn (K P) (Value.ref 454) (Str.ofString "_law_draw") = true := by kernel_rfl
@[reducible] noncomputable def F460 : {x : Arguments × List Stmt × Scope // x = fd 34} := by
  refine ⟨?x, ?h⟩
  case h => conv => rhs; whnf
theorem look_460 (P : Params) : (K P).lookup 460 = some ⟨.type "function", none, .func (fnOf (Str.ofString "_law_pairs") (Str.ofString "_law_pairs") F460.1.1 F460.1.2.1 F460.1.2.2 Value.none Value.none Value.none (Value.str (Str.ofString "law_nn0128_01") 758) Option.none (Value.ref 459) Value.none), #[]⟩ := by kernel_rfl
theorem code_460 (P : Params) : codeIn (K P) (Value.ref 459) (Str.ofString "_law_pairs") = true := by kernel_rfl
@[reducible] noncomputable def F465 : {x : Arguments × List Stmt × Scope // x = fd 35} := by
  refine ⟨?x, ?h⟩
  case h => conv => rhs; whnf
theorem look_465 (P : Params) : (K P).lookup 465 = some ⟨.type "function", none, .func (fnOf (Str.ofString "_law_holder") (Str.ofString "_law_holder") F465.1.1 F465.1.2.1 F465.1.2.2 Value.none Value.none Value.none (Value.str (Str.ofString "law_nn0128_01") 758) Option.none (Value.ref 464) Value.none), #[]⟩ := by kernel_rfl
theorem code_465 (P : Params) : codeIn (K P) (Value.ref 464) (Str.ofString "_law_holder") = true := by kernel_rfl
@[reducible] noncomputable def F472 : {x : Arguments × List Stmt × Scope // x = fd 36} := by
  refine ⟨?x, ?h⟩
  case h => conv => rhs; whnf
theorem look_472 (P : Params) : (K P).lookup 472 = some ⟨.type "function", none, .func (fnOf (Str.ofString "_law_octets") (Str.ofString "_law_octets") F472.1.1 F472.1.2.1 F472.1.2.2 Value.none Value.none Value.none (Value.str (Str.ofString "law_nn0128_01") 758) Option.none (Value.ref 471) Value.none), #[]⟩ := by kernel_rfl
theorem code_472 (P : Params) : codeIn (K P) (Value.ref 471) (Str.ofString "_law_octets") = true := by kernel_rfl
@[reducible] noncomputable def F479 : {x : Arguments × List Stmt × Scope // x = fd 37} := by
  refine ⟨?x, ?h⟩
  case h => conv => rhs; whnf
theorem look_479 (P : Params) : (K P).lookup 479 = some ⟨.type "function", none, .func (fnOf (Str.ofString "_law_missing") (Str.ofString "_law_missing") F479.1.1 F479.1.2.1 F479.1.2.2 Value.none Value.none Value.none (Value.str (Str.ofString "law_nn0128_01") 758) Option.none (Value.ref 478) Value.none), #[]⟩ := by kernel_rfl
theorem code_479 (P : Params) : codeIn (K P) (Value.ref 478) (Str.ofString "_law_missing") = true := by kernel_rfl
@[reducible] noncomputable def F484 : {x : Arguments × List Stmt × Scope // x = fd 38} := by
  refine ⟨?x, ?h⟩
  case h => conv => rhs; whnf
theorem look_484 (P : Params) : (K P).lookup 484 = some ⟨.type "function", none, .func (fnOf (Str.ofString "_law_shelf_right") (Str.ofString "_law_shelf_right") F484.1.1 F484.1.2.1 F484.1.2.2 Value.none Value.none Value.none (Value.str (Str.ofString "law_nn0128_01") 758) Option.none (Value.ref 483) Value.none), #[]⟩ := by kernel_rfl
theorem code_484 (P : Params) : codeIn (K P) (Value.ref 483) (Str.ofString "_law_shelf_right") = true := by kernel_rfl
@[reducible] noncomputable def F491 : {x : Arguments × List Stmt × Scope // x = fd 39} := by
  refine ⟨?x, ?h⟩
  case h => conv => rhs; whnf
theorem look_491 (P : Params) : (K P).lookup 491 = some ⟨.type "function", none, .func (fnOf (Str.ofString "_law_box") (Str.ofString "_law_box") F491.1.1 F491.1.2.1 F491.1.2.2 Value.none Value.none Value.none (Value.str (Str.ofString "law_nn0128_01") 758) Option.none (Value.ref 490) Value.none), #[]⟩ := by kernel_rfl
theorem code_491 (P : Params) : codeIn (K P) (Value.ref 490) (Str.ofString "_law_box") = true := by kernel_rfl
@[reducible] noncomputable def F496 : {x : Arguments × List Stmt × Scope // x = fd 40} := by
  refine ⟨?x, ?h⟩
  case h => conv => rhs; whnf
theorem look_496 (P : Params) : (K P).lookup 496 = some ⟨.type "function", none, .func (fnOf (Str.ofString "_law_fields_right") (Str.ofString "_law_fields_right") F496.1.1 F496.1.2.1 F496.1.2.2 Value.none Value.none Value.none (Value.str (Str.ofString "law_nn0128_01") 758) Option.none (Value.ref 495) Value.none), #[]⟩ := by kernel_rfl
theorem code_496 (P : Params) : codeIn (K P) (Value.ref 495) (Str.ofString "_law_fields_right") = true := by kernel_rfl
@[reducible] noncomputable def F503 : {x : Arguments × List Stmt × Scope // x = fd 41} := by
  refine ⟨?x, ?h⟩
  case h => conv => rhs; whnf
theorem look_503 (P : Params) : (K P).lookup 503 = some ⟨.type "function", none, .func (fnOf (Str.ofString "law") (Str.ofString "law") F503.1.1 F503.1.2.1 F503.1.2.2 Value.none Value.none Value.none (Value.str (Str.ofString "law_nn0128_01") 758) Option.none (Value.ref 502) Value.none), #[]⟩ := by kernel_rfl
theorem code_503 (P : Params) : codeIn (K P) (Value.ref 502) (Str.ofString "law") = true := by kernel_rfl
example : (PySem.Challenge.rw_nn0128_01, Mine.K) = (PySem.Challenge.rw_nn0128_01, Mine.K) := by
  k_fill
  rfl
set_option tactic.hygienic false
theorem words : True := by
  (k_with "Wk_all" => (first | (with_reducible first | assumption | exact ne_nil | ((refine ne_cons ?_ ?_); (focus k_ne); k_all) | ((refine ne_app ?_ ?_); (focus k_all); k_all) | ((refine ne_consq ?_ ?_); (focus k_ne); k_all) | exact allLt_ne (by assumption) | exact off1_ne (by assumption) | exact off3_1 (by assumption) | exact off3_2 (by assumption) | exact off3_3 (by assumption) | exact allLt_ne (allLt_mono (by assumption) (Or.inl (Nat.lt_succ_self _))) | exact allLt_lt (by assumption) (by assumption)) | fail))
  (k_with "Wk_ne" => (first | (first | (with_reducible first | assumption | exact Ne.symm (by assumption) | exact Nat.ne_of_lt (by assumption) | exact Nat.ne_of_gt (by assumption)) | (refine neN ?_; (try dsimp only); with_reducible first | assumption | exact Ne.symm (by assumption) | exact Nat.ne_of_lt (by assumption) | exact Nat.ne_of_gt (by assumption) | omega)) | fail))
  (k_with "Wk_upd" => (first | (first | (with_reducible apply upd_hd; k_all) | ((with_reducible apply upd_tail); (focus k_ne); k_upd) | ((with_reducible apply upd_ap); (focus k_all); k_upd)) | fail))
  (k_with "Wk_updF" => (first | (first | (with_reducible apply updF_hd; k_all) | ((with_reducible apply updF_tail); (focus k_ne); k_updF) | ((with_reducible apply updF_ap); (focus k_all); k_updF)) | fail))
  (k_with "Wk_mem" => (first | (first | with_reducible exact List.mem_cons_self | ((with_reducible refine List.mem_cons_of_mem _ ?_); k_mem) | with_reducible assumption | ((with_reducible refine List.mem_append_left _ ?_); k_mem) | ((with_reducible refine List.mem_append_right _ ?_); k_mem)) | fail))
  (k_with "Wk_room" => (first | (((try simp only [depth_under_make, depth_under_kw, depth_in1, depth_deeper, depth_caller]); (try dsimp only [ktrTop]); (first | decide | omega | (simp only [recursionLimit] at *; omega)))) | fail))
  (k_with "OFF" => (first | (first | with_reducible exact off3_nil | with_reducible assumption | ((with_reducible refine off3_append ?_ ?_) <;> k_extra "OFF") | ((with_reducible refine off3_cons ?_ ?_ ?_ ?_); (focus k_ne); (focus k_ne); (focus k_ne); k_extra "OFF") | with_reducible exact off3_of (by assumption) (by assumption) (by assumption)) | fail))
  (k_with "ROOM" => (first | (first | omega | ((try simp only [depth_under_make, depth_under_kw, depth_in1, depth_deeper, depth_caller]); (try dsimp only [ktrTop]); omega)) | fail))
  (k_with "UNITS" => (first | (first | omega | ((try simp only [units_in1, units_deeper, Around.mark_units, units_caller]); (try dsimp only [ktrTop]); omega)) | fail))
  (k_with "zA" => (first | (first | with_reducible exact Apart.nil | with_reducible assumption | ((with_reducible refine Apart.app ?_ ?_) <;> k_extra "zA") | ((with_reducible refine Apart.cons ?_ ?_); (focus k_all); k_extra "zA")) | fail))
  (k_with "DATS" => (first | (first | with_reducible assumption | exact DatAll.nil | (refine' DatAll.cons ?p0 ?q0; (case p0 => k_extra "DAT"); (case q0 => k_extra "DATS"))) | fail))
  (k_with "zU" => (first | (with_reducible first | exact sub_nil | exact sub_self | ((refine sub_app ?_ ?_); (focus k_extra "zU"); k_extra "zU") | ((refine sub_cons ?_ ?_); (focus k_mem); k_extra "zU") | (refine sub_tl ?_; k_extra "zU") | (refine sub_inl ?_; k_extra "zU") | (refine sub_inr ?_; k_extra "zU") | (intro q hq; k_mem)) | fail))
  (k_with "DAT" => (first | (first | with_reducible assumption | exact DatIn.int _ _ | exact DatIn.str _ _ | exact DatIn.bool _ | exact DatIn.none | exact DatIn.bytes _ _ | (refine' DatIn.tuple ?r0 ?s0; (case r0 => k_mem); (case s0 => k_extra "DATS1")) | (refine' DatIn.list ?r0 ?s0; (case r0 => k_mem); (case s0 => k_extra "DATS1"))) | fail))
  (k_with "VALL" => (first | (first | with_reducible assumption | exact VAll.nil | (refine' VAll.cons ?p0 ?q0; (case p0 => k_extra "VIN"); (case q0 => k_extra "VALL"))) | fail))
  (k_with "VES" => (first | (first | with_reducible assumption | exact VEs.nil | (refine' VEs.cons ?p0 ?q0; (case p0 => k_extra "VIN"); (case q0 => k_extra "VES"))) | fail))
  (k_with "VIN" => (first | (first | with_reducible assumption | exact VIn.int _ _ | exact VIn.bool _ | exact VIn.none | (refine' VIn.name ?r0 ?s0; (case r0 => k_mem); (case s0 => k_mem)) | (refine' VIn.ref ?r0 ?s0; (case r0 => k_mem); (case s0 => k_mem)) | (refine' VIn.string ?r0 ?s0; (case r0 => k_mem); (case s0 => k_mem)) | (refine' VIn.arr ?r0 ?s0; (case r0 => k_mem); (case s0 => k_extra "VALL1")) | (refine' VIn.dict ?r0 ?t0 ?u0 ?s0; (case r0 => k_mem); (case t0 => assumption); (case u0 => assumption); (case s0 => k_extra "VES1"))) | fail))
  (k_with "TUPS" => (first | (first | exact TupsAre.nil | (refine' TupsAre.cons ?p0 ?q0; (case p0 => k_mem); (case q0 => k_extra "TUPS"))) | fail))
  (k_with "DATS1" => (first | (first | with_reducible assumption | exact DatAll.nil | (refine' DatAll.cons ?p1 ?q1; (case p1 => k_extra "DAT1"); (case q1 => k_extra "DATS1"))) | fail))
  (k_with "DAT1" => (first | (first | with_reducible assumption | exact DatIn.int _ _ | exact DatIn.str _ _ | exact DatIn.bool _ | exact DatIn.none | exact DatIn.bytes _ _ | (refine' DatIn.tuple ?r1 ?s1; (case r1 => k_mem); (case s1 => k_extra "DATS2")) | (refine' DatIn.list ?r1 ?s1; (case r1 => k_mem); (case s1 => k_extra "DATS2"))) | fail))
  (k_with "VALL1" => (first | (first | with_reducible assumption | exact VAll.nil | (refine' VAll.cons ?p1 ?q1; (case p1 => k_extra "VIN1"); (case q1 => k_extra "VALL1"))) | fail))
  (k_with "VES1" => (first | (first | with_reducible assumption | exact VEs.nil | (refine' VEs.cons ?p1 ?q1; (case p1 => k_extra "VIN1"); (case q1 => k_extra "VES1"))) | fail))
  (k_with "VIN1" => (first | (first | with_reducible assumption | exact VIn.int _ _ | exact VIn.bool _ | exact VIn.none | (refine' VIn.name ?r1 ?s1; (case r1 => k_mem); (case s1 => k_mem)) | (refine' VIn.ref ?r1 ?s1; (case r1 => k_mem); (case s1 => k_mem)) | (refine' VIn.string ?r1 ?s1; (case r1 => k_mem); (case s1 => k_mem)) | (refine' VIn.arr ?r1 ?s1; (case r1 => k_mem); (case s1 => k_extra "VALL2")) | (refine' VIn.dict ?r1 ?t1 ?u1 ?s1; (case r1 => k_mem); (case t1 => assumption); (case u1 => assumption); (case s1 => k_extra "VES2"))) | fail))
  (k_with "DATS2" => (first | (first | with_reducible assumption | exact DatAll.nil | (refine' DatAll.cons ?p2 ?q2; (case p2 => k_extra "DAT2"); (case q2 => k_extra "DATS2"))) | fail))
  (k_with "DAT2" => (first | (first | with_reducible assumption | exact DatIn.int _ _ | exact DatIn.str _ _ | exact DatIn.bool _ | exact DatIn.none | exact DatIn.bytes _ _ | (refine' DatIn.tuple ?r2 ?s2; (case r2 => k_mem); (case s2 => k_extra "DATS3")) | (refine' DatIn.list ?r2 ?s2; (case r2 => k_mem); (case s2 => k_extra "DATS3"))) | fail))
  (k_with "VALL2" => (first | (first | with_reducible assumption | exact VAll.nil | (refine' VAll.cons ?p2 ?q2; (case p2 => k_extra "VIN2"); (case q2 => k_extra "VALL2"))) | fail))
  (k_with "VES2" => (first | (first | with_reducible assumption | exact VEs.nil | (refine' VEs.cons ?p2 ?q2; (case p2 => k_extra "VIN2"); (case q2 => k_extra "VES2"))) | fail))
  (k_with "VIN2" => (first | (first | with_reducible assumption | exact VIn.int _ _ | exact VIn.bool _ | exact VIn.none | (refine' VIn.name ?r2 ?s2; (case r2 => k_mem); (case s2 => k_mem)) | (refine' VIn.ref ?r2 ?s2; (case r2 => k_mem); (case s2 => k_mem)) | (refine' VIn.string ?r2 ?s2; (case r2 => k_mem); (case s2 => k_mem)) | (refine' VIn.arr ?r2 ?s2; (case r2 => k_mem); (case s2 => k_extra "VALL3")) | (refine' VIn.dict ?r2 ?t2 ?u2 ?s2; (case r2 => k_mem); (case t2 => assumption); (case u2 => assumption); (case s2 => k_extra "VES3"))) | fail))
  (k_with "DATS3" => (first | (first | with_reducible assumption | exact DatAll.nil | (refine' DatAll.cons ?p3 ?q3; (case p3 => k_extra "DAT3"); (case q3 => k_extra "DATS3"))) | fail))
  (k_with "DAT3" => (first | (first | with_reducible assumption | exact DatIn.int _ _ | exact DatIn.str _ _ | exact DatIn.bool _ | exact DatIn.none | exact DatIn.bytes _ _ | (refine' DatIn.tuple ?r3 ?s3; (case r3 => k_mem); (case s3 => k_extra "DATS3")) | (refine' DatIn.list ?r3 ?s3; (case r3 => k_mem); (case s3 => k_extra "DATS3"))) | fail))
  (k_with "VALL3" => (first | (first | with_reducible assumption | exact VAll.nil | (refine' VAll.cons ?p3 ?q3; (case p3 => k_extra "VIN3"); (case q3 => k_extra "VALL3"))) | fail))
  (k_with "VES3" => (first | (first | with_reducible assumption | exact VEs.nil | (refine' VEs.cons ?p3 ?q3; (case p3 => k_extra "VIN3"); (case q3 => k_extra "VES3"))) | fail))
  (k_with "VIN3" => (first | (first | with_reducible assumption | exact VIn.int _ _ | exact VIn.bool _ | exact VIn.none | (refine' VIn.name ?r3 ?s3; (case r3 => k_mem); (case s3 => k_mem)) | (refine' VIn.ref ?r3 ?s3; (case r3 => k_mem); (case s3 => k_mem)) | (refine' VIn.string ?r3 ?s3; (case r3 => k_mem); (case s3 => k_mem)) | (refine' VIn.arr ?r3 ?s3; (case r3 => k_mem); (case s3 => k_extra "VALL3")) | (refine' VIn.dict ?r3 ?t3 ?u3 ?s3; (case r3 => k_mem); (case t3 => assumption); (case u3 => assumption); (case s3 => k_extra "VES3"))) | fail))
  (k_with "LTR" => (first | ((with_reducible first | ((refine ltR10 ?_); intro k_l k_l k_l k_l k_l k_l k_l k_l k_l k_l k_h) | ((refine ltR9 ?_); intro k_l k_l k_l k_l k_l k_l k_l k_l k_l k_h) | ((refine ltR8 ?_); intro k_l k_l k_l k_l k_l k_l k_l k_l k_h) | ((refine ltR7 ?_); intro k_l k_l k_l k_l k_l k_l k_l k_h) | ((refine ltR6 ?_); intro k_l k_l k_l k_l k_l k_l k_h) | ((refine ltR5 ?_); intro k_l k_l k_l k_l k_l k_h) | ((refine ltR4 ?_); intro k_l k_l k_l k_l k_h) | ((refine ltR3 ?_); intro k_l k_l k_l k_h) | ((refine ltR2 ?_); intro k_l k_l k_h) | ((refine ltR1 ?_); intro k_l k_h) | ((refine ltR0 ?_); intro k_h)); (repeat (with_reducible first | ((refine ltE10 k_h ?_); clear k_h; intro k_l k_l k_l k_l k_l k_l k_l k_l k_l k_l k_h) | ((refine ltE9 k_h ?_); clear k_h; intro k_l k_l k_l k_l k_l k_l k_l k_l k_l k_h) | ((refine ltE8 k_h ?_); clear k_h; intro k_l k_l k_l k_l k_l k_l k_l k_l k_h) | ((refine ltE7 k_h ?_); clear k_h; intro k_l k_l k_l k_l k_l k_l k_l k_h) | ((refine ltE6 k_h ?_); clear k_h; intro k_l k_l k_l k_l k_l k_l k_h) | ((refine ltE5 k_h ?_); clear k_h; intro k_l k_l k_l k_l k_l k_h) | ((refine ltE4 k_h ?_); clear k_h; intro k_l k_l k_l k_l k_h) | ((refine ltE3 k_h ?_); clear k_h; intro k_l k_l k_l k_h) | ((refine ltE2 k_h ?_); clear k_h; intro k_l k_l k_h) | ((refine ltE1 k_h ?_); clear k_h; intro k_l k_h) | (simp only [List.nil_append] at k_h) | (simp only [List.cons_append] at k_h) | ((refine ltEapp k_h ?_); clear k_h; intro k_h9 k_h)))) | fail))
  (k_with "NAME" => (first | (((with_reducible show wpAny _ _ (eval (Expr.Name _ _) (compEnvC _ _ _ _)) _ _ _); (first | refine LCgL.ld_own (by k_asm) (by k_mem) (by assumption) (by assumption) ?_ | (refine' lcf_cell ?N ?c ?m ?d ?_ ?a ?b; (case c => rfl); (case a => rfl); (case b => rfl); (case N => k_asm); (case m => k_mem); (case d => k_asm)) | refine LCgL.ld_global (by k_asm) (by k_asm) (by k_asm) (by k_is) ?_ | refine LCgL.ld_built (by k_asm) (by k_asm) (by k_asm) (by k_is) (by boot_by_name) (by decide) ?_))) | fail))
  (k_with "LCE" => (first | (((with_reducible show wpAny _ _ (eval (PySem.Expr.ListComp _ _ _ _) _) _ _ _); (first | ((with_reducible refine' LCg.ListComp_U (F₀ := ?F) ?hclos ?hcell ?hkind ?hnames ?hx ?_ ?hs); (case F => k_asm); (case hclos => with_unfolding_all rfl); (case hcell => decide); (case hkind => exact rfl); (case hnames => decide); (case hx => exact rfl); (case hs => intro _; with_unfolding_all rfl)) | ((with_reducible refine' LCt.ListComp_T (F₀ := ?F) ?hclos ?hcell ?hkind ?hnames ?hx ?_ ?hs); (case F => k_asm); (case hclos => with_unfolding_all rfl); (case hcell => decide); (case hkind => exact rfl); (case hnames => decide); (case hx => exact rfl); (case hs => intro _; with_unfolding_all rfl)) | ((with_reducible refine' LCp.ListComp_P (F₀ := ?F) ?hclos ?hcell ?hkind ?hnames ?hx ?hx2 ?hxx ?_ ?hs); (case F => k_asm); (case hclos => with_unfolding_all rfl); (case hcell => decide); (case hkind => exact rfl); (case hnames => decide); (case hx => exact rfl); (case hs => intro _; with_unfolding_all rfl); (case hx2 => exact rfl); (case hxx => decide))))) | fail))
  (k_with "LCA" => (first | (((with_reducible show wpAny _ _ (exec (Stmt.Assign [_] (PySem.Expr.ListComp _ _ _ _) _) _) _ _ _); (first | ((with_reducible refine' LCg.Assign_ListComp_U (F₀ := ?F) ?hLe ?hsw ?hclos ?hcell ?hkind ?hnames ?hx ?hy ?hp ?_ ?hs); (case hy => exact rfl); (case F => k_asm); (case hLe => exact rfl); (case hsw => with_unfolding_all rfl); (case hclos => with_unfolding_all rfl); (case hcell => decide); (case hkind => exact rfl); (case hnames => decide); (case hx => exact rfl); (case hp => exact rfl); (case hs => intro _; with_unfolding_all rfl)) | ((with_reducible refine' LCt.Assign_ListComp_T (F₀ := ?F) ?hLe ?hsw ?hclos ?hcell ?hkind ?hnames ?hx ?hy ?hp ?_ ?hs); (case hy => exact rfl); (case F => k_asm); (case hLe => exact rfl); (case hsw => with_unfolding_all rfl); (case hclos => with_unfolding_all rfl); (case hcell => decide); (case hkind => exact rfl); (case hnames => decide); (case hx => exact rfl); (case hp => exact rfl); (case hs => intro _; with_unfolding_all rfl)) | ((with_reducible refine' LCp.Assign_ListComp_P (F₀ := ?F) ?hLe ?hsw ?hclos ?hcell ?hkind ?hnames ?hx ?hx2 ?hxx ?hy ?hp ?_ ?hs); (case hy => exact rfl); (case F => k_asm); (case hLe => exact rfl); (case hsw => with_unfolding_all rfl); (case hclos => with_unfolding_all rfl); (case hcell => decide); (case hkind => exact rfl); (case hnames => decide); (case hx => exact rfl); (case hp => exact rfl); (case hs => intro _; with_unfolding_all rfl); (case hx2 => exact rfl); (case hxx => decide)) | ((with_reducible refine' wpAny_Assign_Name ?_ ?hs); (case hs => with_unfolding_all rfl))))) | fail))
  (k_with "FINE" => (first | (((first | ((with_reducible show LCg.FinE _ _ _ _ _ _ _); unfold LCg.FinE) | ((with_reducible show LCg.FinA _ _ _ _ _ _ _ _); unfold LCg.FinA)); intro D' h' tk' F' N' o1'; (k_extra "LTE o1'"); (try simp only [AllLt, allLt_append, LCg.Off1, off1_append, LCg.Off3, off3_app_iff, and_true, and_assoc] at o1'); (repeat (have k_l := And.left o1'; replace o1' := And.right o1')); (try simp only [List.nil_append, List.cons_append] at N'); (try dsimp only); (try k_sweep))) | fail))
  (k_with "DRAW" => (first | (((with_reducible refine' draw_use ?B ?F ?X ?N ?T ?U ?yC ?yc ?yo ?hN ?hm ?hm2 ?hk ?hd ?hu ?_); (case B => k_asm); (case F => k_asm); (case X => k_asm); (case N => k_asm); (case T => k_asm); (case hk => first | rfl | assumption); (case hd => k_extra "ROOM"); (case hu => k_extra "UNITS"); (case U => k_updF); (case yC => assumption); (case yc => k_mem); (case yo => assumption); (case hN => omega); (case hm => decide); (case hm2 => decide); intro d' t' o' h' tk' F' N' hd1' hd2' hp'; (try dsimp only at N'); (try k_sweep))) | fail))
  (k_with "NEW" => (first | (((first | (with_reducible refine' new_ref ?B ?F ?X ?N ?T ?hk ?hd ?hu ?_) | (with_reducible refine' new_name ?B ?F ?X ?N ?T ?hk ?hd ?hu ?_) | (with_reducible refine' new_string ?B ?F ?X ?N ?T ?hk ?hd ?hu ?_) | (with_reducible refine' new_stream ?B ?F ?X ?N ?T ?hk ?hd ?hu ?_) | (with_reducible refine' new_finding ?B ?F ?X ?N ?T ?hk ?hd ?hu ?_) | (with_reducible refine' new_shelf ?B ?F ?X ?N ?T ?hk ?hd ?hu ?_)); (case B => k_asm); (case F => k_asm); (case X => k_asm); (case N => k_asm); (case T => k_asm); (case hk => first | rfl | assumption); (case hd => k_extra "ROOM"); (case hu => k_extra "UNITS"); intros; (k_extra "LTX"); (try k_sweep))) | fail))
  (k_with "SUBS" => (first | (((with_reducible show wpAny _ _ (subscriptTail _ _ (Value.ref _) (Value.int _ _)) _ _ _); (first | (refine' item_litK ?k1 ?k2 ?k3 ?k4 ?_ ?k6; (case k1 => exact News.isList (by k_asm) (by k_mem)); (case k2 => decide); (case k3 => decide); (case k4 => rfl); (case k6 => with_unfolding_all rfl)) | (refine' item_tupleT ?t ?a ?b ?c ?d ?_; (case t => exact News.isTup (by k_asm) (by k_mem)); (case a => decide); (case b => decide); (case c => rfl); (case d => rfl))))) | fail))
  (k_with "LEN" => (first | (((with_reducible show wpAny _ _ (call (Value.builtin "len") [Value.ref _]) _ _ _); refine call_len_list (News.isList (by k_asm) (by k_mem)) (by first | (simp only [List.size_toArray]; omega) | decide) ?_; (try simp only [List.size_toArray]))) | fail))
  (k_with "PUTR" => (first | (((with_reducible show wpAny _ _ (call (Value.ref 334) _) _ _ _); (first | ((with_reducible refine' put_use ?B ?F ?X ?N ?T ?hk ?hd ?hu (putc_ref ?s1 ?s2 ?U ?hT ?kl) ?_); (case B => k_asm); (case F => k_asm); (case X => k_asm); (case N => k_asm); (case T => k_asm); (case hk => first | rfl | assumption); (case hd => k_extra "ROOM"); (case hu => k_extra "UNITS"); (case s1 => k_mem); (case s2 => k_mem); (case U => k_updF); (case hT => assumption); (case kl => first | assumption | omega); intro tP oP nP h' tk' F' N' l1' hd'; (try dsimp only at N'); (k_extra "LTE l1'"); (try simp only [AllLt, allLt_append, LCg.Off1, off1_append, LCg.Off3, off3_app_iff, and_true, and_assoc] at l1'); (repeat (have k_l := And.left l1'; replace l1' := And.right l1')); (try k_sweep)) | ((with_reducible refine' put_use ?B ?F ?X ?N ?T ?hk ?hd ?hu (putc_int ?s1 ?s2 ?U ?hT ?kl) ?_); (case B => k_asm); (case F => k_asm); (case X => k_asm); (case N => k_asm); (case T => k_asm); (case hk => first | rfl | assumption); (case hd => k_extra "ROOM"); (case hu => k_extra "UNITS"); (case s1 => k_mem); (case s2 => k_mem); (case U => k_updF); (case hT => assumption); (case kl => first | assumption | omega); intro tP oP nP h' tk' F' N' l1' hd'; (try dsimp only at N'); (k_extra "LTE l1'"); (try simp only [AllLt, allLt_append, LCg.Off1, off1_append, LCg.Off3, off3_app_iff, and_true, and_assoc] at l1'); (repeat (have k_l := And.left l1'; replace l1' := And.right l1')); (try k_sweep))))) | fail))
  (k_with "zM" => (first | (((with_reducible show wpAny _ _ (eval (Expr.Name _ _) (envOf _ _ _ _ _)) _ _ _); refine ld (by k_asm) (by with_reducible assumption) ?_)) | fail))
  (k_with "KINDR" => (first | (((with_reducible show wpAny _ _ (call (Value.ref 260) [_]) _ _ _); (with_reducible refine kind_use (by k_asm) (by k_asm) (by k_asm) (by k_asm) (by k_asm) (by first | rfl | assumption) (by k_extra "ROOM") (by k_extra "UNITS") (by first | with_reducible assumption | (refine' VIn.mono ?k1 ?k2; (case k2 => with_reducible assumption); (case k1 => k_extra "zU"))) ?_); intro tK hK tkK F' N'; (try dsimp only [kindD]); (try k_sweep))) | fail))
  (k_with "BYTESR" => (first | (((with_reducible show wpAny _ _ (call (Value.type "bytes") [Value.bytes _ _]) _ _ _); refine bytes_of_bytes ?_)) | fail))
  (k_with "SORTS" => (first | (((with_reducible show wpAny _ _ (call (Value.builtin "sorted") [Value.ref _]) _ _ _); refine sorted_strD (by rfl) (by k_asm) (by k_asm) (by k_mem) (by assumption) (by assumption) (by assumption) (by omega) ?_; intro DS cS hS tkS vsS FS NS lS hvS; (k_extra "LTE lS"); (try simp only [AllLt, allLt_append, LCg.Off1, off1_append, LCg.Off3, off3_app_iff, and_true, and_assoc] at lS); (repeat (have k_l := And.left lS; replace lS := And.right lS)); (try k_sweep))) | fail))
  (k_with "ISI" => (first | (((with_reducible show wpAny _ _ (call (Value.builtin "isinstance") [_, _]) _ _ _); (with_reducible first | refine' isi_ref ?B ?F ?X ?N ?T ?h ?_ | refine' isi_stream ?B ?F ?X ?N ?T ?h ?_ | refine' isi_dict ?B ?F ?X ?N ?T ?h ?_ | refine' isi_list ?B ?F ?X ?N ?T ?h ?_); (case B => k_asm); (case F => k_asm); (case X => k_asm); (case N => k_asm); (case T => k_asm); (case h => first | with_reducible assumption | (refine' VIn.mono ?k1 ?k2; (case k2 => with_reducible assumption); (case k1 => k_extra "zU"))); intro tkI; (try dsimp only [isPV]))) | fail))
  (k_with "zN" => (first | (((with_reducible show wpAny _ _ (eval (Expr.Name _ _) (envOf _ _ _ _ _)) _ _ _); refine ld (by k_asm) (by first | with_reducible assumption | with_reducible exact if_pos rfl | (refine (if_neg (by decide +kernel)).trans ?_; first | with_reducible assumption | with_reducible exact if_pos rfl | (refine (if_neg (by decide +kernel)).trans ?_; first | with_reducible assumption | with_reducible exact if_pos rfl | (refine (if_neg (by decide +kernel)).trans ?_; first | with_reducible assumption | with_reducible exact if_pos rfl | (refine (if_neg (by decide +kernel)).trans ?_; first | with_reducible assumption | with_reducible exact if_pos rfl | (refine (if_neg (by decide +kernel)).trans ?_; with_reducible assumption) | exact rfl) | exact rfl) | exact rfl) | exact rfl) | exact rfl) ?_)) | fail))
  (k_with "TRUTHL" => (first | (((with_reducible show wpAny _ _ (truthy (Value.ref _)) _ _ _); refine wpAny_truthy_list (News.isList (by k_asm) (by k_mem)) (by simp only [List.size_toArray, List.length_append, List.length_cons, List.length_nil]; omega) ?_; (try rw [toArr_ne]))) | fail))
  (k_with "POPL" => (first | (((with_reducible show wpAny _ _ (call (Value.builtin "list.pop") [Value.ref _]) _ _ _); (refine' kl_pop ?F ?N ?e ?U ?z ?_; (case F => k_asm); (case N => k_asm); (case e => exact kpa_last _ _); (case U => k_upd); (case z => (simp only [List.length_append, List.length_cons, List.length_nil, sizeLine_eq]; omega))); intro hP FP NP; (try k_sweep))) | fail))
  (k_with "PAIRU" => (first | (((with_reducible show wpAny _ _ (call (Value.ref 246) _) _ _ _); (show wpAny _ _ (call (Value.ref 246) [_]) _ _ _); (with_reducible refine pair_use (by k_asm) (by k_asm) (by k_asm) (by k_asm) (by k_asm) (by first | rfl | assumption) (by k_extra "ROOM") (by k_extra "UNITS") (by first | with_reducible assumption | (refine' VIn.mono ?k1 ?k2; (case k2 => with_reducible assumption); (case k1 => k_extra "zU"))) ?_); intro tP uP uP2 nP hP tkP FP NP lP; (k_extra "LTE lP"); (try simp only [AllLt, allLt_append, LCg.Off1, off1_append, LCg.Off3, off3_app_iff, and_true, and_assoc] at lP); (repeat (have k_l := And.left lP; replace lP := And.right lP)); (try k_sweep))) | fail))
  (k_with "PARTSU" => (first | (((with_reducible show wpAny _ _ (call (Value.ref 277) [_]) _ _ _); (with_reducible refine parts_use (by k_asm) (by k_asm) (by k_asm) (by k_asm) (by k_asm) (by first | rfl | assumption) (by k_extra "ROOM") (by k_extra "UNITS") (by first | with_reducible assumption | (refine' VIn.mono ?k1 ?k2; (case k2 => with_reducible assumption); (case k1 => k_extra "zU"))) (by with_reducible assumption) ?_); intro DP ysP nP tlP hP tkP FP NP hP1 hP2 hP3; (try k_sweep))) | fail))
  (k_with "REVT" => (first | (((with_reducible show wpAny _ _ (call (Value.type "reversed") [Value.ref _]) _ _ _); refine krv_reversed (by k_asm) (by k_asm) (News.isList (by k_asm) (by k_mem)) ?_; intro DR hRv FR NR lR; replace lR := allLt_of lR; (k_extra "LTE lR"); (try simp only [AllLt, allLt_append, LCg.Off1, off1_append, LCg.Off3, off3_app_iff, and_true, and_assoc] at lR); (repeat (have k_l := And.left lR; replace lR := And.right lR)); (try k_sweep))) | fail))
  (k_with "NUMS" => (first | (((with_reducible show wpAny _ _ (call (Value.ref 355) _) _ _ _); (show wpAny _ _ (call (Value.ref 355) [_]) _ _ _); refine numbers_use (by k_asm) (by k_asm) (by k_asm) (by k_asm) (by k_asm) (by first | rfl | assumption) (by k_extra "ROOM") (by k_extra "UNITS") (by with_reducible assumption) (by k_extra "zU") ?_; intro DS vsS cS hS tkS FS NS lS hvS; (k_extra "LTE lS"); (try simp only [AllLt, allLt_append, LCg.Off1, off1_append, LCg.Off3, off3_app_iff, and_true, and_assoc] at lS); (repeat (have k_l := And.left lS; replace lS := And.right lS)); (try k_sweep))) | fail))
  (k_with "TOLDU" => (first | (((with_reducible show wpAny _ _ (call (Value.ref 272) _) _ _ _); (show wpAny _ _ (call (Value.ref 272) [_]) _ _ _); refine told_use (n := 6) (by k_asm) (by k_asm) (by k_asm) (by k_asm) (by k_asm) (by first | rfl | assumption) (by k_extra "ROOM") (by k_extra "UNITS") (by with_reducible assumption) (by k_extra "zU") (by with_reducible assumption) ?_; intro rT tlT hT tkT FT NT hT2 hT3; (try k_sweep))) | fail))
  (k_with "NAMEU" => (first | (((with_reducible show wpAny _ _ (call (Value.ref 415) _) _ _ _); (show wpAny _ _ (call (Value.ref 415) [_]) _ _ _); refine name_use (by k_asm) (by k_asm) (by k_asm) (by k_asm) (by k_asm) (by first | rfl | assumption) (by k_extra "ROOM") (by k_extra "UNITS") (by with_reducible assumption) (by k_extra "zU") ?_; intro tN hN tkN FN NN; (try k_sweep))) | fail))
  (k_with "REFSU" => (first | (((with_reducible show wpAny _ _ (call (Value.ref 284) _) _ _ _); (show wpAny _ _ (call (Value.ref 284) [_]) _ _ _); refine refs_use (n := 6) (by k_asm) (by k_asm) (by k_asm) (by k_asm) (by k_asm) (by first | rfl | assumption) (by k_extra "ROOM") (by k_extra "UNITS") HV (by k_extra "zU") HK HZ ?_; intro RD rvs cR tlR hRh tkR FR NR hR1 hR2 hR3; (try k_sweep))) | fail))
  (k_with "THERE" => (first | (((with_reducible show wpAny _ _ (call (Value.ref 28) _) _ _ _); (show wpAny _ _ (call (Value.ref 28) [_, _]) _ _ _); refine there_use (by k_asm) (by k_asm) (by k_asm) (by k_asm) (by k_asm) (by first | rfl | assumption) (by k_extra "ROOM") (by k_extra "UNITS") hSn (by k_extra "zU") (by k_mem) ?_; intro hTh tkTh FTh NTh; (try k_sweep))) | fail))
  (k_with "FORT" => (first | (((with_reducible show wpAny _ _ (exec (Stmt.For _ _ _ _ _) _) _ _ _); (rename Fr _ _ _ _ => lF9); (with_unfolding_all refine' For_turnsG lF9 ?g ?_; (case g => exact rfl)))) | fail))
  (k_with "FORV" => (first | (((with_reducible show wpAny _ _ (exec (Stmt.For _ _ _ [] _) _) _ _ _); (rename Fr _ _ _ _ => lF9); (with_unfolding_all refine' For_invVF lF9 ?k1 ?k2 ?_; (case k1 => exact rfl); (case k2 => exact rfl)))) | fail))
  (k_with "SRCL" => (first | ((first | (refine LCg.CompSrc.ledger (by rfl) (by k_asm) (by k_asm) (by k_mem) ?hsz ?_) | (refine LCp.SrcLP.ledger (by rfl) (by k_asm) (by k_asm) (by k_mem) ?hsz ?_) | (refine LCt.CompSrcT.ledger (by rfl) (by k_asm) (by k_asm) (by k_mem) ?hsz ?_))) | fail))
  (k_with "RETP" => (first | ((with_reducible refine retP_spl (p := p) (fr := fr) (by assumption) (by assumption) (by repeat (first | exact Spl.here | apply Spl.cons | apply Spl.app)) ?_)) | fail))
  (k_with "ST" => (first | (((with_reducible show wpAny _ _ (execs (_ :: _) _) _ _ (Shared.mk _ _ _ (_ + 1) _)); (try dsimp only); (with_reducible refine st_any ?_); intro tkS)) | fail))
  (k_with "SETF" => (first | (((with_reducible show wpAny _ _ (setItem (Value.ref _) (Value.str _ _) _) _ _ _); refine' kda_set (knd := PySem.strKind _ _) ?qF ?qN ?qU ?qd (strKind_is _ _ _ _) ?qz ?_; (case qF => k_asm); (case qN => k_asm); (case qU => k_updF); (case qd => with_reducible assumption); (case qz => (rw [sizeLine_eq]; first | omega | exact Nat.le_trans (stored_length_le _ _ _) (by omega))); intro h9 o9 F9 N9 hd9; (try dsimp only at N9); (try k_sweep))) | fail))
  (k_with "FTOLDR" => (first | (((with_reducible show wpAny _ _ (call (Value.ref 394) _) _ _ _); (show wpAny _ _ (call (Value.ref 394) [_]) _ _ _); refine ftold_use (by k_asm) (by k_asm) (by k_asm) (by k_asm) (by k_asm) hfin (by k_extra "zU") rfl (by k_extra "ROOM") (by k_extra "UNITS") ?_; intro rF tlF hF tkF FF NF hF2 hF3; (try k_sweep))) | fail))
  (k_with "STOLDR" => (first | (((with_reducible show wpAny _ _ (call (Value.ref 367) _) _ _ _); (show wpAny _ _ (call (Value.ref 367) [_]) _ _ _); refine stold_use (by k_asm) (by k_asm) (by k_asm) (by k_asm) (by k_asm) hSn (by k_extra "zU") hTO hTR rfl (by k_extra "ROOM") (by k_extra "UNITS") ?_; intro rS tlS hhS tkS FS NS hS2 hS3; (try k_sweep))) | fail))
  (k_with "NEWD" => (first | (((with_reducible show wpAny _ _ (call (Value.ref 150) _) _ _ _); (show wpAny _ _ (call (Value.ref 150) [_, _]) _ _ _); (with_reducible refine' new_dec ?h10 ?B ?F ?X ?N ?T ?hk ?hd ?hu ?hp ?_); (case h10 => decide +kernel); (case hp => decide); (case B => k_asm); (case F => k_asm); (case X => k_asm); (case N => k_asm); (case T => k_asm); (case hk => first | rfl | assumption); (case hd => k_extra "ROOM"); (case hu => k_extra "UNITS"); intros; (k_extra "LTX"); (try k_sweep))) | fail))
  (k_with "NEWREF" => (first | (((with_reducible show wpAny _ _ (call (Value.ref 249) _) _ _ _); (show wpAny _ _ (call (Value.ref 249) [_, _]) _ _ _); (with_reducible refine' new_ref ?B ?F ?X ?N ?T ?hk ?hd ?hu ?_); (case B => k_asm); (case F => k_asm); (case X => k_asm); (case N => k_asm); (case T => k_asm); (case hk => first | rfl | assumption); (case hd => k_extra "ROOM"); (case hu => k_extra "UNITS"); intro xR dR; intros; (k_extra "LTX"); (try k_sweep))) | fail))
  (k_with "KINDR0" => (first | (((with_reducible show wpAny _ _ (call (Value.ref 260) [_]) _ _ _); (with_reducible refine kind_use (by k_asm) (by k_asm) (by k_asm) (by k_asm) (by k_asm) (by first | rfl | assumption) (by k_extra "ROOM") (by k_extra "UNITS") (by first | with_reducible assumption | (refine' VIn.mono ?k1 ?k2; (case k2 => with_reducible assumption); (case k1 => k_extra "zU"))) ?_); intro tK hK tkK F' N'; (try k_sweep))) | fail))
  (k_with "CALLS" => (first | (((with_reducible show wpAny _ _ (call (Value.ref _) _) _ _ _); (first | k_extra "DRAW" | k_extra "NEW"))) | fail))
  (k_with "zS" => (first | ((fail_if_success (with_reducible show LCg.CompEnd _ _ _ _ _ _ _ _ _ _ _ _ _ _)); (fail_if_success (with_reducible show RetP _ _ _ _ _ _)); (fail_if_success (with_reducible show LCg.CompRest _ _ _ _ _ _ _ _ _ _ _ _ _ _ _ _ _ _ _)); (fail_if_success (with_reducible show LCp.CompRestP _ _ _ _ _ _ _ _ _ _ _ _ _ _ _ _ _ _ _ _)); (fail_if_success (with_reducible show LCt.CompRestT _ _ _ _ _ _ _ _ _ _ _ _ _ _ _ _ _ _ _ _))) | fail))
  (k_with "LTE o1'" => (first | ((repeat (with_reducible first | ((refine ltE10 o1' ?_); clear o1'; intro k_l k_l k_l k_l k_l k_l k_l k_l k_l k_l o1') | ((refine ltE9 o1' ?_); clear o1'; intro k_l k_l k_l k_l k_l k_l k_l k_l k_l o1') | ((refine ltE8 o1' ?_); clear o1'; intro k_l k_l k_l k_l k_l k_l k_l k_l o1') | ((refine ltE7 o1' ?_); clear o1'; intro k_l k_l k_l k_l k_l k_l k_l o1') | ((refine ltE6 o1' ?_); clear o1'; intro k_l k_l k_l k_l k_l k_l o1') | ((refine ltE5 o1' ?_); clear o1'; intro k_l k_l k_l k_l k_l o1') | ((refine ltE4 o1' ?_); clear o1'; intro k_l k_l k_l k_l o1') | ((refine ltE3 o1' ?_); clear o1'; intro k_l k_l k_l o1') | ((refine ltE2 o1' ?_); clear o1'; intro k_l k_l o1') | ((refine ltE1 o1' ?_); clear o1'; intro k_l o1') | (simp only [List.nil_append] at o1') | (simp only [List.cons_append] at o1') | ((refine ltEapp o1' ?_); clear o1'; intro k_h9 o1')))) | fail))
  (k_with "LTE l1'" => (first | ((repeat (with_reducible first | ((refine ltE10 l1' ?_); clear l1'; intro k_l k_l k_l k_l k_l k_l k_l k_l k_l k_l l1') | ((refine ltE9 l1' ?_); clear l1'; intro k_l k_l k_l k_l k_l k_l k_l k_l k_l l1') | ((refine ltE8 l1' ?_); clear l1'; intro k_l k_l k_l k_l k_l k_l k_l k_l l1') | ((refine ltE7 l1' ?_); clear l1'; intro k_l k_l k_l k_l k_l k_l k_l l1') | ((refine ltE6 l1' ?_); clear l1'; intro k_l k_l k_l k_l k_l k_l l1') | ((refine ltE5 l1' ?_); clear l1'; intro k_l k_l k_l k_l k_l l1') | ((refine ltE4 l1' ?_); clear l1'; intro k_l k_l k_l k_l l1') | ((refine ltE3 l1' ?_); clear l1'; intro k_l k_l k_l l1') | ((refine ltE2 l1' ?_); clear l1'; intro k_l k_l l1') | ((refine ltE1 l1' ?_); clear l1'; intro k_l l1') | (simp only [List.nil_append] at l1') | (simp only [List.cons_append] at l1') | ((refine ltEapp l1' ?_); clear l1'; intro k_h9 l1')))) | fail))
  (k_with "LTE l3'" => (first | ((repeat (with_reducible first | ((refine ltE10 l3' ?_); clear l3'; intro k_l k_l k_l k_l k_l k_l k_l k_l k_l k_l l3') | ((refine ltE9 l3' ?_); clear l3'; intro k_l k_l k_l k_l k_l k_l k_l k_l k_l l3') | ((refine ltE8 l3' ?_); clear l3'; intro k_l k_l k_l k_l k_l k_l k_l k_l l3') | ((refine ltE7 l3' ?_); clear l3'; intro k_l k_l k_l k_l k_l k_l k_l l3') | ((refine ltE6 l3' ?_); clear l3'; intro k_l k_l k_l k_l k_l k_l l3') | ((refine ltE5 l3' ?_); clear l3'; intro k_l k_l k_l k_l k_l l3') | ((refine ltE4 l3' ?_); clear l3'; intro k_l k_l k_l k_l l3') | ((refine ltE3 l3' ?_); clear l3'; intro k_l k_l k_l l3') | ((refine ltE2 l3' ?_); clear l3'; intro k_l k_l l3') | ((refine ltE1 l3' ?_); clear l3'; intro k_l l3') | (simp only [List.nil_append] at l3') | (simp only [List.cons_append] at l3') | ((refine ltEapp l3' ?_); clear l3'; intro k_h9 l3')))) | fail))
  (k_with "LTE lS" => (first | ((repeat (with_reducible first | ((refine ltE10 lS ?_); clear lS; intro k_l k_l k_l k_l k_l k_l k_l k_l k_l k_l lS) | ((refine ltE9 lS ?_); clear lS; intro k_l k_l k_l k_l k_l k_l k_l k_l k_l lS) | ((refine ltE8 lS ?_); clear lS; intro k_l k_l k_l k_l k_l k_l k_l k_l lS) | ((refine ltE7 lS ?_); clear lS; intro k_l k_l k_l k_l k_l k_l k_l lS) | ((refine ltE6 lS ?_); clear lS; intro k_l k_l k_l k_l k_l k_l lS) | ((refine ltE5 lS ?_); clear lS; intro k_l k_l k_l k_l k_l lS) | ((refine ltE4 lS ?_); clear lS; intro k_l k_l k_l k_l lS) | ((refine ltE3 lS ?_); clear lS; intro k_l k_l k_l lS) | ((refine ltE2 lS ?_); clear lS; intro k_l k_l lS) | ((refine ltE1 lS ?_); clear lS; intro k_l lS) | (simp only [List.nil_append] at lS) | (simp only [List.cons_append] at lS) | ((refine ltEapp lS ?_); clear lS; intro k_h9 lS)))) | fail))
  (k_with "LTE lP" => (first | ((repeat (with_reducible first | ((refine ltE10 lP ?_); clear lP; intro k_l k_l k_l k_l k_l k_l k_l k_l k_l k_l lP) | ((refine ltE9 lP ?_); clear lP; intro k_l k_l k_l k_l k_l k_l k_l k_l k_l lP) | ((refine ltE8 lP ?_); clear lP; intro k_l k_l k_l k_l k_l k_l k_l k_l lP) | ((refine ltE7 lP ?_); clear lP; intro k_l k_l k_l k_l k_l k_l k_l lP) | ((refine ltE6 lP ?_); clear lP; intro k_l k_l k_l k_l k_l k_l lP) | ((refine ltE5 lP ?_); clear lP; intro k_l k_l k_l k_l k_l lP) | ((refine ltE4 lP ?_); clear lP; intro k_l k_l k_l k_l lP) | ((refine ltE3 lP ?_); clear lP; intro k_l k_l k_l lP) | ((refine ltE2 lP ?_); clear lP; intro k_l k_l lP) | ((refine ltE1 lP ?_); clear lP; intro k_l lP) | (simp only [List.nil_append] at lP) | (simp only [List.cons_append] at lP) | ((refine ltEapp lP ?_); clear lP; intro k_h9 lP)))) | fail))
  (k_with "LTE lR" => (first | ((repeat (with_reducible first | ((refine ltE10 lR ?_); clear lR; intro k_l k_l k_l k_l k_l k_l k_l k_l k_l k_l lR) | ((refine ltE9 lR ?_); clear lR; intro k_l k_l k_l k_l k_l k_l k_l k_l k_l lR) | ((refine ltE8 lR ?_); clear lR; intro k_l k_l k_l k_l k_l k_l k_l k_l lR) | ((refine ltE7 lR ?_); clear lR; intro k_l k_l k_l k_l k_l k_l k_l lR) | ((refine ltE6 lR ?_); clear lR; intro k_l k_l k_l k_l k_l k_l lR) | ((refine ltE5 lR ?_); clear lR; intro k_l k_l k_l k_l k_l lR) | ((refine ltE4 lR ?_); clear lR; intro k_l k_l k_l k_l lR) | ((refine ltE3 lR ?_); clear lR; intro k_l k_l k_l lR) | ((refine ltE2 lR ?_); clear lR; intro k_l k_l lR) | ((refine ltE1 lR ?_); clear lR; intro k_l lR) | (simp only [List.nil_append] at lR) | (simp only [List.cons_append] at lR) | ((refine ltEapp lR ?_); clear lR; intro k_h9 lR)))) | fail))
  (k_with "LTX" => (first | ((rename (@LT.lt Nat _ _ _) => l2'); (rename AllLt _ _ => l1'); (with_reducible first | ((refine ltX10 l1' l2' ?_); clear l1'; intro k_l k_l k_l k_l k_l k_l k_l k_l k_l k_l k_l k_l k_l k_l k_l k_l k_l k_l k_l k_l l1' l3') | ((refine ltX9 l1' l2' ?_); clear l1'; intro k_l k_l k_l k_l k_l k_l k_l k_l k_l k_l k_l k_l k_l k_l k_l k_l k_l k_l l1' l3') | ((refine ltX8 l1' l2' ?_); clear l1'; intro k_l k_l k_l k_l k_l k_l k_l k_l k_l k_l k_l k_l k_l k_l k_l k_l l1' l3') | ((refine ltX7 l1' l2' ?_); clear l1'; intro k_l k_l k_l k_l k_l k_l k_l k_l k_l k_l k_l k_l k_l k_l l1' l3') | ((refine ltX6 l1' l2' ?_); clear l1'; intro k_l k_l k_l k_l k_l k_l k_l k_l k_l k_l k_l k_l l1' l3') | ((refine ltX5 l1' l2' ?_); clear l1'; intro k_l k_l k_l k_l k_l k_l k_l k_l k_l k_l l1' l3') | ((refine ltX4 l1' l2' ?_); clear l1'; intro k_l k_l k_l k_l k_l k_l k_l k_l l1' l3') | ((refine ltX3 l1' l2' ?_); clear l1'; intro k_l k_l k_l k_l k_l k_l l1' l3') | ((refine ltX2 l1' l2' ?_); clear l1'; intro k_l k_l k_l k_l l1' l3') | ((refine ltX1 l1' l2' ?_); clear l1'; intro k_l k_l l1' l3') | ((refine ltX0 l1' l2' ?_); clear l1'; intro l1' l3')); (k_extra "LTE l1'"); (k_extra "LTE l3'")) | fail))
  (k_with "zF" => (first | (((fail_if_success (fail_if_success k_fold)); refine (let qk_ : _ → Shared → Prop := _; (?_ : wpAny _ _ _ qk_ _ _)))) | fail))
  (k_with "V0" => (first | (refine (let X_ : Prop := _; (?_ : X_))) | fail))
  (k_with "V1" => (first | ((try k_extra "zF"); refine (let X_ : Prop := _; (?_ : X_))) | fail))
  (k_with "V2" => (first | (unfold X_; clear X_) | fail))
  (k_with "TU" => (first | ((fail_if_success (with_reducible show UnrPost _ _ _ _ _ _ _ _ _)); (fail_if_success (with_reducible show UnrEnd _ _ _ _ _ _ _))) | fail))
  (k_with "GG" => (first | (refine of_goal_ ?_; simp (disch := k_dflt (k_extra "GO")) only [↓goal_]) | fail))
  (k_with "NXT" => (first | (((with_reducible show NextQ _ _ _ _ _ _ _ _); with_reducible first | refine nextQ_n ?_ | refine nextQ_r ?_ | refine nextQ_c ?_ | refine nextQ_b ?_)) | fail))
  (k_with "zP" => (first | (first | (k_unfold; (try with_reducible refine (?_ : wpAny _ _ _ _ _ _)); (try dsimp only)) | k_extra "NXT" | k_extra "ST" | ((with_reducible first | show wpAny _ _ (execs (_ :: _) _) _ _ _ | show wpAny _ _ (eval (PySem.Expr.Call _ _ _ _) _) _ _ _ | show wpAny _ _ (isTrue _ _ _) _ _ _); ((fail_if_success (fail_if_success k_fold)); refine (let qk_ : _ → Shared → Prop := _; (?_ : wpAny _ _ _ qk_ _ _))))) | fail))
  (k_with "EXC" => (first | (((with_reducible show wpAny _ _ (execs (_ :: _) _) _ _ _); with_reducible first | refine execs1 ?_ | refine execsN ?_)) | fail))
  (k_with "CWB" => (first | (((with_reducible show wpAny _ _ (callWith _ (Value.builtin _) [] (backTo _ (starEach (_ :: _) _)) []) _ _ _); refine PyProof.Rows.callWith_builtin1 ?_)) | fail))
  (k_with "CWM" => (first | (((with_reducible show wpAny _ _ (callWith _ (Value.builtin _) (_ :: _) (backTo _ (starEach (_ :: _) _)) []) _ _ _); refine PyProof.Rows.callWith_method1 ?_)) | fail))
  (k_with "zQ" => (first | (first | k_extra "EXC" | k_extra "CWB" | k_extra "CWM" | k_extra "NAME" | k_extra "LCE" | k_extra "LCA" | k_extra "FINE" | k_extra "CALLS" | k_extra "SUBS" | k_extra "LEN" | walk1 | (dsimp only; walk1) | (leave1; try dsimp only) | fail "no step") | fail))
  (k_with "NX" => (first | ((first | with_reducible assumption | with_reducible exact if_pos rfl | (refine (if_neg (by decide +kernel)).trans ?_; first | with_reducible assumption | with_reducible exact if_pos rfl | (refine (if_neg (by decide +kernel)).trans ?_; first | with_reducible assumption | with_reducible exact if_pos rfl | (refine (if_neg (by decide +kernel)).trans ?_; first | with_reducible assumption | with_reducible exact if_pos rfl | (refine (if_neg (by decide +kernel)).trans ?_; first | with_reducible assumption | with_reducible exact if_pos rfl | (refine (if_neg (by decide +kernel)).trans ?_; first | with_reducible assumption | with_reducible exact if_pos rfl | (refine (if_neg (by decide +kernel)).trans ?_; with_reducible assumption) | exact rfl) | exact rfl) | exact rfl) | exact rfl) | exact rfl) | exact rfl)) | fail))
  (k_with "SPL1" => (first | ((repeat (first | exact splC1 | apply SplC.cons | apply SplC.app))) | fail))
  (k_with "SPLT" => (first | (repeat (first | exact splC2 | exact splC3 | exact splC4 | exact splC5 | apply SplC.cons | apply SplC.app)) | fail))
  (k_with "LIT" => (first | ((with_reducible first | show @LE.le Nat _ (OfNat.ofNat _) (OfNat.ofNat _) | show @LE.le Nat _ (HAdd.hAdd _ _) (OfNat.ofNat _) | show @LT.lt Nat _ (OfNat.ofNat _) (OfNat.ofNat _) | show @LT.lt Nat _ (HAdd.hAdd _ _) (OfNat.ofNat _) | show @LE.le Int _ (OfNat.ofNat _) (OfNat.ofNat _) | show @LE.le Int _ (HAdd.hAdd _ _) (OfNat.ofNat _) | show @LT.lt Int _ (OfNat.ofNat _) (OfNat.ofNat _) | show @LT.lt Int _ (HAdd.hAdd _ _) (OfNat.ofNat _))) | fail))
  (k_with "OM" => (first | (first | with_reducible assumption | (k_extra "LIT"; decide) | with_reducible exact q_room (by with_reducible assumption) (by decide) | with_reducible exact q_room0 (by with_reducible assumption) | with_reducible exact q_le (by with_reducible assumption) (by decide) | with_reducible exact q_lt (by with_reducible assumption) (by decide) | with_reducible exact q_eq (by with_reducible assumption) (by with_reducible assumption) (by decide) | with_reducible exact q_ile (by with_reducible assumption) (by decide) | with_reducible exact q_ilt (by with_reducible assumption) (by decide) | with_reducible exact q_ltl (by with_reducible assumption) (by decide) | with_reducible exact q_neg (by with_reducible assumption) | with_reducible exact q_neg (Int.natCast_nonneg _) | with_reducible exact q_neg1 (by with_reducible assumption) | with_reducible exact q_big (by with_reducible assumption) (by decide) | with_reducible exact Int.natCast_nonneg _ | with_reducible exact q_c1 (by with_reducible assumption) (by with_reducible assumption) rfl | with_reducible exact q_c2 (by with_reducible assumption) (by with_reducible assumption) rfl | with_reducible exact q_c3 (by with_reducible assumption) (by with_reducible assumption) rfl | with_reducible exact q_c8 (by with_reducible assumption) (by with_reducible assumption) rfl | with_reducible exact q_c6 (by with_reducible assumption) (by with_reducible assumption) rfl | with_reducible exact q_d1 (by with_reducible assumption) (by with_reducible assumption) rfl | with_reducible exact q_c4 (by with_reducible assumption) (by with_reducible assumption) (by with_reducible assumption) rfl | with_reducible exact q_c5 (by with_reducible assumption) (by with_reducible assumption) (by with_reducible assumption) rfl | with_reducible exact q_c7 (by with_reducible assumption) (by with_reducible assumption) (by with_reducible assumption) rfl | with_reducible exact q_d2 (by with_reducible assumption) (by with_reducible assumption) (by with_reducible assumption) rfl | with_reducible exact q_d3 (by with_reducible assumption) (by with_reducible assumption) | with_reducible exact q_d4 (by with_reducible assumption) (by with_reducible assumption) | ((repeat ((with_reducible rename (@Ne Nat _ _) => zz); clear zz)); (repeat ((with_reducible rename (AllLt _ _) => zz); clear zz)); omega (splitDisjunctions := true))) | fail))
  trivial
theorem allLt_ne {d : Addr} : ∀ {l : List (Addr × Obj)}, AllLt d l → ∀ p ∈ l, p.1 ≠ d
  | [], _, _, h => nomatch h
  | q :: r, ⟨h1, h2⟩, p, hp => by
    ((k_extra "V1"; rcases List.mem_cons.mp hp with rfl | hp) <;> k_extra "V2")
    · exact Nat.ne_of_lt h1
    · exact allLt_ne h2 p hp
theorem allLt_all {d : Addr} : ∀ {l : List (Addr × Obj)}, AllLt d l → ∀ p ∈ l, p.1 < d
  | [], _, _, h => nomatch h
  | q :: r, ⟨h1, h2⟩, p, hp => by
    ((k_extra "V1"; rcases List.mem_cons.mp hp with rfl | hp) <;> k_extra "V2")
    · exact h1
    · exact allLt_all h2 p hp
theorem compEnd_pre {h₀ : Heap} {L I C D : Addr} {m : Str → Option Value} {s₁ : Shared} {oI oC oD : Obj} {S : List (Addr × Obj) → Prop} {rest : Value → List (Addr × Obj) → Prop} {y : Value} {h' : Heap} {tk : Nat} (pre : List (Addr × Obj)) {R : List (Addr × Obj)}
    (F : Fr h₀ L h' m) (N : News h₀ L h' (pre ++ (I, oI) :: (C, oC) :: (D, oD) :: R)) (o1 : LCg.Off3 I C D pre) (o2 : LCg.Off3 I C D R) (hS : S (pre ++ R)) (r : rest y (pre ++ R)) :
    LCg.CompEnd h₀ L m s₁ I oI C oC D oD S rest y { s₁ with heap := h', toks := tk } := by
  refine LCg.CompEnd.intro F N (pre ++ R) (fun p hp => ?_) (LCg.Off3.of fun p hp => ?_) hS r
  · simp only [List.mem_cons, List.mem_append] at hp ⊢
    ((k_extra "V1"; rcases hp with h | h | h | h | h) <;> k_extra "V2")
    · exact .inr (.inl h)
    · exact .inr (.inr (.inl h))
    · exact .inr (.inr (.inr (.inl h)))
    · exact .inl h
    · exact .inr (.inr (.inr (.inr h)))
  · ((k_extra "V1"; rcases List.mem_append.mp hp with h | h) <;> k_extra "V2")
    · exact o1.mem p h
    · exact o2.mem p h
theorem off3_append {I C D : Addr} {l r : List (Addr × Obj)} (h1 : LCg.Off3 I C D l) (h2 : LCg.Off3 I C D r) : LCg.Off3 I C D (l ++ r) := LCg.Off3.of fun p hp => (List.mem_append.mp hp).elim (h1.mem p) (h2.mem p)
theorem allLt_append {d : Addr} {l r : List (Addr × Obj)} : AllLt d (l ++ r) ↔ AllLt d l ∧ AllLt d r := by
  induction l with
  | nil => exact ⟨fun h => ⟨trivial, h⟩, fun h => h.2⟩
  | cons p l ih => exact ⟨fun h => ⟨⟨h.1, (ih.mp h.2).1⟩, (ih.mp h.2).2⟩, fun h => ⟨h.1.1, ih.mpr ⟨h.1.2, h.2⟩⟩⟩
theorem allLt_mono {d e : Addr} {l : List (Addr × Obj)} (h : AllLt d l) (hde : @LT.lt Nat _ d e ∨ @LE.le Nat _ d e) : AllLt e l := allLt_of fun p hp => by
  have := allLt_all h p hp
  ((k_extra "V1"; rcases hde with hde | hde) <;> k_extra "V2")
  · exact Nat.lt_trans this hde
  · exact Nat.lt_of_lt_of_le this hde
theorem off3_of {I C D : Addr} {l : List (Addr × Obj)} (h1 : AllLt I l) (h2 : AllLt C l) (h3 : AllLt D l) : LCg.Off3 I C D l := LCg.Off3.of fun p hp => ⟨allLt_ne h1 p hp, allLt_ne h2 p hp, allLt_ne h3 p hp⟩
theorem upd_app {d : Addr} {o o' : Obj} {t l l' : List (Addr × Obj)} (h : ∀ p ∈ t, p.1 ≠ d) (u : Upd d o o' l l') : Upd d o o' (t ++ l) (t ++ l') := by
  induction t with
  | nil => exact u
  | cons p t ih => exact .tail (h p List.mem_cons_self) (ih fun q hq => h q (List.mem_cons_of_mem _ hq))
theorem updF_app {d : Addr} {o : Obj} {t l : List (Addr × Obj)} {g : Obj → List (Addr × Obj)} (h : ∀ p ∈ t, p.1 ≠ d) (u : UpdF d o l g) : UpdF d o (t ++ l) (fun o' => t ++ g o') := by
  induction t with
  | nil => exact u
  | cons p t ih => exact .tail (h p List.mem_cons_self) (ih fun q hq => h q (List.mem_cons_of_mem _ hq))
theorem off1_ne {D : Addr} : ∀ {l : List (Addr × Obj)}, LCg.Off1 D l → ∀ p ∈ l, p.1 ≠ D
  | [], _, _, h => nomatch h
  | q :: r, ⟨h1, h2⟩, p, hp => by
    ((k_extra "V1"; rcases List.mem_cons.mp hp with rfl | hp) <;> k_extra "V2")
    · exact h1
    · exact off1_ne h2 p hp
theorem off1_append {d : Addr} {l r : List (Addr × Obj)} : LCg.Off1 d (l ++ r) ↔ LCg.Off1 d l ∧ LCg.Off1 d r := by
  induction l with
  | nil => exact ⟨fun h => ⟨trivial, h⟩, fun h => h.2⟩
  | cons p l ih => exact ⟨fun h => ⟨⟨h.1, (ih.mp h.2).1⟩, (ih.mp h.2).2⟩, fun h => ⟨h.1.1, ih.mpr ⟨h.1.2, h.2⟩⟩⟩
theorem off3_app_iff {I C D : Addr} {l r : List (Addr × Obj)} : LCg.Off3 I C D (l ++ r) ↔ LCg.Off3 I C D l ∧ LCg.Off3 I C D r :=
  ⟨fun h => ⟨LCg.Off3.of fun p hp => h.mem p (List.mem_append_left _ hp), LCg.Off3.of fun p hp => h.mem p (List.mem_append_right _ hp)⟩, fun h => off3_append h.1 h.2⟩
theorem off3_1 {I C D : Addr} {l : List (Addr × Obj)} (h : LCg.Off3 I C D l) : ∀ p ∈ l, p.1 ≠ I := fun p hp => (h.mem p hp).1
theorem off3_2 {I C D : Addr} {l : List (Addr × Obj)} (h : LCg.Off3 I C D l) : ∀ p ∈ l, p.1 ≠ C := fun p hp => (h.mem p hp).2.1
theorem off3_3 {I C D : Addr} {l : List (Addr × Obj)} (h : LCg.Off3 I C D l) : ∀ p ∈ l, p.1 ≠ D := fun p hp => (h.mem p hp).2.2
def Apart (l t : List (Addr × Obj)) : Prop := ∀ q ∈ l, ∀ x ∈ t, x.1 ≠ q.1
theorem Apart.nil {l : List (Addr × Obj)} : Apart l [] := fun _ _ _ h => nomatch h
theorem Apart.cons {l t : List (Addr × Obj)} {x : Addr × Obj} (h : ∀ q ∈ l, q.1 ≠ x.1) (r : Apart l t) : Apart l (x :: t) := fun q hq y hy => by
  ((k_extra "V1"; rcases List.mem_cons.mp hy with rfl | hy) <;> k_extra "V2")
  · exact Ne.symm (h q hq)
  · exact r q hq y hy
theorem Apart.app {l t u : List (Addr × Obj)} (h : Apart l t) (r : Apart l u) : Apart l (t ++ u) := fun q hq y hy => (List.mem_append.mp hy).elim (h q hq y) (r q hq y)
theorem Apart.lcons {l t : List (Addr × Obj)} {q : Addr × Obj} (h : ∀ x ∈ t, x.1 ≠ q.1) (r : Apart l t) : Apart (q :: l) t := fun y hy x hx => by
  ((k_extra "V1"; rcases List.mem_cons.mp hy with rfl | hy) <;> k_extra "V2")
  · exact h x hx
  · exact r y hy x hx
theorem Apart.ne {l t : List (Addr × Obj)} (h : Apart l t) {d : Addr} {o : Obj} (hd : (d, o) ∈ l) : ∀ x ∈ t, x.1 ≠ d := h _ hd
theorem Apart.ne' {l t : List (Addr × Obj)} (h : Apart l t) {d : Addr} {o : Obj} (hd : (d, o) ∈ t) : ∀ q ∈ l, q.1 ≠ d := fun q hq => Ne.symm (h q hq _ hd)
theorem off3_nil {I C D : Addr} : LCg.Off3 I C D [] := trivial
theorem off3_cons {I C D a : Addr} {o : Obj} {l : List (Addr × Obj)} (h1 : a ≠ I) (h2 : a ≠ C) (h3 : a ≠ D) (r : LCg.Off3 I C D l) : LCg.Off3 I C D ((a, o) :: l) := ⟨⟨h1, h2, h3⟩, r⟩
theorem fdiv_lit {prog : Program} {w : World} {A : Around} {E : Value → Shared → Prop} {s : Shared} {Q : Value → Shared → Prop} {a b : Int} {t u : Tok} (ha : 0 ≤ a) (hb : 0 < b) (hb2 : b < 1073741824) (h : ∀ z, z = a / b → Q (.int z s.toks) { s with toks := s.toks + 1 }) : wpAny (model prog w) A (binaryOp .FloorDiv (.int a t) (.int b u)) Q E s :=
  floordiv_int (by omega) (h _ (Int.fdiv_eq_ediv_of_nonneg _ (by omega))) (Or.inl (PyProof.noPylong_small (by omega)))
theorem RetP.pre {g : Heap} {L : Addr} {s₁ : Shared} {Post : Value → List (Addr × Obj) → Prop} {fl : Flow} {h' : Heap} {tk' : Nat} {m' : Str → Option Value} (tl : List (Addr × Obj)) {p : Addr} {o' : Obj} {fr : List (Addr × Obj)}
    (F : Fr g L h' m') (N : News g L h' (tl ++ (p, o') :: fr)) (hp : Post (match fl with | .ret v => v | _ => .none) ((p, o') :: (tl ++ fr))) : RetP g L s₁ Post fl { s₁ with heap := h', toks := tk' } :=
  RetP.intro F (fun q hq => N q (by simp only [List.mem_cons, List.mem_append] at hq ⊢; rcases hq with h | h | h <;> simp [h])) hp
abbrev pairD (q : Int × Int) : Dat := .tuple [.int q.1, .int q.2]
def PairOk (q : Int × Int) : Prop := 1 ≤ q.1 ∧ q.1 ≤ 6 ∧ 0 ≤ q.2 ∧ q.2 ≤ 1
def PairsOk (ps : List (Int × Int)) : Prop := ps.length ≤ 3 ∧ ∀ q ∈ ps, PairOk q
theorem compEnd_0 {h₀ : Heap} {L I C D : Addr} {m : Str → Option Value} {s₁ : Shared} {oI oC oD : Obj} {S : List (Addr × Obj) → Prop} {rest : Value → List (Addr × Obj) → Prop} {y : Value} {h' : Heap} {tk : Nat} {R : List (Addr × Obj)}
    (F : Fr h₀ L h' m) (N : News h₀ L h' ((I, oI) :: (C, oC) :: (D, oD) :: R)) (o1 : LCg.Off3 I C D []) (o2 : LCg.Off3 I C D R) (hS : S (R)) (r : rest y (R)) :
    LCg.CompEnd h₀ L m s₁ I oI C oC D oD S rest y { s₁ with heap := h', toks := tk } := compEnd_pre [] F N o1 o2 hS r
theorem compEnd_1 {h₀ : Heap} {L I C D : Addr} {m : Str → Option Value} {s₁ : Shared} {oI oC oD : Obj} {S : List (Addr × Obj) → Prop} {rest : Value → List (Addr × Obj) → Prop} {y : Value} {h' : Heap} {tk : Nat} {x0 : Addr × Obj} {R : List (Addr × Obj)}
    (F : Fr h₀ L h' m) (N : News h₀ L h' (x0 :: (I, oI) :: (C, oC) :: (D, oD) :: R)) (o1 : LCg.Off3 I C D [x0]) (o2 : LCg.Off3 I C D R) (hS : S (x0 :: R)) (r : rest y (x0 :: R)) :
    LCg.CompEnd h₀ L m s₁ I oI C oC D oD S rest y { s₁ with heap := h', toks := tk } := compEnd_pre [x0] F N o1 o2 hS r
theorem compEnd_2 {h₀ : Heap} {L I C D : Addr} {m : Str → Option Value} {s₁ : Shared} {oI oC oD : Obj} {S : List (Addr × Obj) → Prop} {rest : Value → List (Addr × Obj) → Prop} {y : Value} {h' : Heap} {tk : Nat} {x0 x1 : Addr × Obj} {R : List (Addr × Obj)}
    (F : Fr h₀ L h' m) (N : News h₀ L h' (x0 :: x1 :: (I, oI) :: (C, oC) :: (D, oD) :: R)) (o1 : LCg.Off3 I C D [x0, x1]) (o2 : LCg.Off3 I C D R) (hS : S (x0 :: x1 :: R)) (r : rest y (x0 :: x1 :: R)) :
    LCg.CompEnd h₀ L m s₁ I oI C oC D oD S rest y { s₁ with heap := h', toks := tk } := compEnd_pre [x0, x1] F N o1 o2 hS r
theorem compEnd_3 {h₀ : Heap} {L I C D : Addr} {m : Str → Option Value} {s₁ : Shared} {oI oC oD : Obj} {S : List (Addr × Obj) → Prop} {rest : Value → List (Addr × Obj) → Prop} {y : Value} {h' : Heap} {tk : Nat} {x0 x1 x2 : Addr × Obj} {R : List (Addr × Obj)}
    (F : Fr h₀ L h' m) (N : News h₀ L h' (x0 :: x1 :: x2 :: (I, oI) :: (C, oC) :: (D, oD) :: R)) (o1 : LCg.Off3 I C D [x0, x1, x2]) (o2 : LCg.Off3 I C D R) (hS : S (x0 :: x1 :: x2 :: R)) (r : rest y (x0 :: x1 :: x2 :: R)) :
    LCg.CompEnd h₀ L m s₁ I oI C oC D oD S rest y { s₁ with heap := h', toks := tk } := compEnd_pre [x0, x1, x2] F N o1 o2 hS r
theorem compEnd_4 {h₀ : Heap} {L I C D : Addr} {m : Str → Option Value} {s₁ : Shared} {oI oC oD : Obj} {S : List (Addr × Obj) → Prop} {rest : Value → List (Addr × Obj) → Prop} {y : Value} {h' : Heap} {tk : Nat} {x0 x1 x2 x3 : Addr × Obj} {R : List (Addr × Obj)}
    (F : Fr h₀ L h' m) (N : News h₀ L h' (x0 :: x1 :: x2 :: x3 :: (I, oI) :: (C, oC) :: (D, oD) :: R)) (o1 : LCg.Off3 I C D [x0, x1, x2, x3]) (o2 : LCg.Off3 I C D R) (hS : S (x0 :: x1 :: x2 :: x3 :: R)) (r : rest y (x0 :: x1 :: x2 :: x3 :: R)) :
    LCg.CompEnd h₀ L m s₁ I oI C oC D oD S rest y { s₁ with heap := h', toks := tk } := compEnd_pre [x0, x1, x2, x3] F N o1 o2 hS r
theorem compEnd_5 {h₀ : Heap} {L I C D : Addr} {m : Str → Option Value} {s₁ : Shared} {oI oC oD : Obj} {S : List (Addr × Obj) → Prop} {rest : Value → List (Addr × Obj) → Prop} {y : Value} {h' : Heap} {tk : Nat} {x0 x1 x2 x3 x4 : Addr × Obj} {R : List (Addr × Obj)}
    (F : Fr h₀ L h' m) (N : News h₀ L h' (x0 :: x1 :: x2 :: x3 :: x4 :: (I, oI) :: (C, oC) :: (D, oD) :: R)) (o1 : LCg.Off3 I C D [x0, x1, x2, x3, x4]) (o2 : LCg.Off3 I C D R) (hS : S (x0 :: x1 :: x2 :: x3 :: x4 :: R)) (r : rest y (x0 :: x1 :: x2 :: x3 :: x4 :: R)) :
    LCg.CompEnd h₀ L m s₁ I oI C oC D oD S rest y { s₁ with heap := h', toks := tk } := compEnd_pre [x0, x1, x2, x3, x4] F N o1 o2 hS r
theorem compEnd_6 {h₀ : Heap} {L I C D : Addr} {m : Str → Option Value} {s₁ : Shared} {oI oC oD : Obj} {S : List (Addr × Obj) → Prop} {rest : Value → List (Addr × Obj) → Prop} {y : Value} {h' : Heap} {tk : Nat} {x0 x1 x2 x3 x4 x5 : Addr × Obj} {R : List (Addr × Obj)}
    (F : Fr h₀ L h' m) (N : News h₀ L h' (x0 :: x1 :: x2 :: x3 :: x4 :: x5 :: (I, oI) :: (C, oC) :: (D, oD) :: R)) (o1 : LCg.Off3 I C D [x0, x1, x2, x3, x4, x5]) (o2 : LCg.Off3 I C D R) (hS : S (x0 :: x1 :: x2 :: x3 :: x4 :: x5 :: R)) (r : rest y (x0 :: x1 :: x2 :: x3 :: x4 :: x5 :: R)) :
    LCg.CompEnd h₀ L m s₁ I oI C oC D oD S rest y { s₁ with heap := h', toks := tk } := compEnd_pre [x0, x1, x2, x3, x4, x5] F N o1 o2 hS r
theorem allLt_lt {d e : Addr} {l : List (Addr × Obj)} (h1 : @LT.lt Nat _ d e) (h : AllLt d l) : ∀ p ∈ l, p.1 ≠ e := allLt_ne (allLt_mono h (Or.inl h1))
section comps
variable {prog : Program} {w : World} {A : Around} {s : Shared} {h₀ : Heap} {L : Addr} {m : Str → Option Value} {env : Env} {elt ct : PySem.Expr} {x x₂ : Str} {scope : Scope} {cl : List (Str × Addr)} {S : List (Addr × Obj) → Prop} {P : Nat → Value → Prop} {Fin : List Value → List (Addr × Obj) → Prop} {news₀ : List (Addr × Obj)} {n : Nat}
abbrev CPost (J : Nat → List (Addr × Obj) → List Value → Prop) (news₀ : List (Addr × Obj)) (i : Nat) (ys : List Value) (y : Value) (news' : List (Addr × Obj)) : Prop := ∃ tl', news' = tl' ++ news₀ ∧ Apart news₀ tl' ∧ J (i + 1) tl' (ys ++ [y])
theorem comp_pure (J : Nat → List (Addr × Obj) → List Value → Prop) (h0 : J 0 [] [])
    (step : ∀ i v ys tl, i < n → P i v → ys.length = i → Apart news₀ tl → J i tl ys → ∀ I oI C oC D m₂ h tk (E' : Value → Shared → Prop), LCg.NsObj oC m₂ → m₂ x = some v → Fr h₀ L h m → News h₀ L h ((I, oI) :: (C, oC) :: (D, LCg.lst ys) :: (tl ++ news₀)) → LCg.Off3 I C D tl → LCg.Off3 I C D news₀ → ((@Ne Nat I C) ∧ (@Ne Nat I D) ∧ (@Ne Nat C D)) →
      wpAny (model prog w) A (eval elt (compEnvC scope cl C env)) (LCg.CompEnd h₀ L m { s with heap := h, toks := tk } I oI C oC D (LCg.lst ys) S (CPost J news₀ i ys)) E' { s with heap := h, toks := tk })
    (fin : ∀ tl ys, ys.length = n → Apart news₀ tl → J n tl ys → Fin ys (tl ++ news₀)) : LCg.CompRest prog w A h₀ L m env elt x scope cl s S P Fin n 0 [] news₀ := by
  have key : ∀ (j i : Nat) (ys : List Value) (tl : List (Addr × Obj)), i + j = n → ys.length = i → Apart news₀ tl → J i tl ys → LCg.CompRest prog w A h₀ L m env elt x scope cl s S P Fin j i ys (tl ++ news₀) := by
    intro j
    induction j with
    | zero =>
      intro i ys tl hi hy ha hJ
      have e : i = n := by omega
      subst e
      exact LCg.CompRest.zero (fin tl ys hy ha hJ)
    | succ j ih =>
      intro i ys tl hi hy ha hJ
      refine LCg.CompRest.succ ?_
      intro v I oI C oC D m₂ h tk E' hv hC hx F N off ne
      have o := off3_app_iff.mp off
      refine wpAny_mono (step i v ys tl (by omega) hv hy ha hJ I oI C oC D m₂ h tk E' hC hx F N o.1 o.2 ne) (fun y s₂ hq => ?_) fun _ _ e => e
      ((k_extra "V1"; obtain ⟨h', tk', nw, e, F', N', off', hS, tl', rfl, ha', hJ'⟩ := hq) <;> k_extra "V2")
      exact ⟨h', tk', _, e, F', N', off', hS, ih (i + 1) _ tl' (by omega) (by simp [hy]) ha' hJ'⟩
  exact key n 0 [] [] (by omega) rfl Apart.nil h0
theorem compP_pure (J : Nat → List (Addr × Obj) → List Value → Prop) (h0 : J 0 [] [])
    (step : ∀ i v ys tl, i < n → P i v → ys.length = i → Apart news₀ tl → J i tl ys → ∃ (t : Addr) (ot : Obj) (v₁ v₂ : Value) (nt : Nat), v = .ref t ∧ (t, ot) ∈ news₀ ∧ ot.cls = .type "tuple" ∧ ot.data = .seq #[v₁, v₂] nt ∧
      ∀ I oI C oC D m₂ h tk (E' : Value → Shared → Prop), LCg.NsObj oC m₂ → m₂ x = some v₁ → m₂ x₂ = some v₂ → Fr h₀ L h m → News h₀ L h ((I, oI) :: (C, oC) :: (D, LCg.lst ys) :: (tl ++ news₀)) → LCg.Off3 I C D tl → LCg.Off3 I C D news₀ → ((@Ne Nat I C) ∧ (@Ne Nat I D) ∧ (@Ne Nat C D)) →
      wpAny (model prog w) A (eval elt (compEnvC scope cl C env)) (LCg.CompEnd h₀ L m { s with heap := h, toks := tk } I oI C oC D (LCg.lst ys) S (CPost J news₀ i ys)) E' { s with heap := h, toks := tk })
    (fin : ∀ tl ys, ys.length = n → Apart news₀ tl → J n tl ys → Fin ys (tl ++ news₀)) : LCp.CompRestP prog w A h₀ L m env elt x x₂ scope cl s S P Fin n 0 [] news₀ := by
  have key : ∀ (j i : Nat) (ys : List Value) (tl : List (Addr × Obj)), i + j = n → ys.length = i → Apart news₀ tl → J i tl ys → LCp.CompRestP prog w A h₀ L m env elt x x₂ scope cl s S P Fin j i ys (tl ++ news₀) := by
    intro j
    induction j with
    | zero =>
      intro i ys tl hi hy ha hJ
      have e : i = n := by omega
      subst e
      exact LCp.CompRestP.zero (fin tl ys hy ha hJ)
    | succ j ih =>
      intro i ys tl hi hy ha hJ
      refine LCp.CompRestP.succ ?_
      intro v hv
      ((k_extra "V1"; obtain ⟨t, ot, v₁, v₂, nt, e1, e2, e3, e4, hst⟩ := step i v ys tl (by omega) hv hy ha hJ) <;> k_extra "V2")
      refine ⟨t, ot, v₁, v₂, nt, e1, List.mem_append_right _ e2, e3, e4, ?_⟩
      intro I oI C oC D m₂ h tk E' hC hx hx2 F N off ne
      have o := off3_app_iff.mp off
      refine wpAny_mono (hst I oI C oC D m₂ h tk E' hC hx hx2 F N o.1 o.2 ne) (fun y s₂ hq => ?_) fun _ _ e => e
      ((k_extra "V1"; obtain ⟨h', tk', nw, e, F', N', off', hS, tl', rfl, ha', hJ'⟩ := hq) <;> k_extra "V2")
      exact ⟨h', tk', _, e, F', N', off', hS, ih (i + 1) _ tl' (by omega) (by simp [hy]) ha' hJ'⟩
  exact key n 0 [] [] (by omega) rfl Apart.nil h0
abbrev CPostM (J : Nat → Obj → List (Addr × Obj) → List Value → Prop) (p : Addr) (news₀ : List (Addr × Obj)) (i : Nat) (ys : List Value) (y : Value) (news' : List (Addr × Obj)) : Prop := ∃ o' tl', news' = (p, o') :: (tl' ++ news₀) ∧ (∀ q ∈ tl', q.1 ≠ p) ∧ Apart news₀ tl' ∧ J (i + 1) o' tl' (ys ++ [y])
theorem comp_mut {p : Addr} {o₀ : Obj} (J : Nat → Obj → List (Addr × Obj) → List Value → Prop) (h0 : J 0 o₀ [] [])
    (step : ∀ i v ys o tl, i < n → P i v → ys.length = i → (∀ q ∈ tl, q.1 ≠ p) → Apart news₀ tl → J i o tl ys → ∀ I oI C oC D m₂ h tk (E' : Value → Shared → Prop), LCg.NsObj oC m₂ → m₂ x = some v → Fr h₀ L h m → News h₀ L h ((I, oI) :: (C, oC) :: (D, LCg.lst ys) :: (p, o) :: (tl ++ news₀)) → p ≠ I → p ≠ C → p ≠ D → LCg.Off3 I C D tl → LCg.Off3 I C D news₀ → ((@Ne Nat I C) ∧ (@Ne Nat I D) ∧ (@Ne Nat C D)) →
      wpAny (model prog w) A (eval elt (compEnvC scope cl C env)) (LCg.CompEnd h₀ L m { s with heap := h, toks := tk } I oI C oC D (LCg.lst ys) S (CPostM J p news₀ i ys)) E' { s with heap := h, toks := tk })
    (fin : ∀ o tl ys, ys.length = n → (∀ q ∈ tl, q.1 ≠ p) → Apart news₀ tl → J n o tl ys → Fin ys ((p, o) :: (tl ++ news₀))) : LCg.CompRest prog w A h₀ L m env elt x scope cl s S P Fin n 0 [] ((p, o₀) :: news₀) := by
  have key : ∀ (j i : Nat) (ys : List Value) (o : Obj) (tl : List (Addr × Obj)), i + j = n → ys.length = i → (∀ q ∈ tl, q.1 ≠ p) → Apart news₀ tl → J i o tl ys → LCg.CompRest prog w A h₀ L m env elt x scope cl s S P Fin j i ys ((p, o) :: (tl ++ news₀)) := by
    intro j
    induction j with
    | zero =>
      intro i ys o tl hi hy hp ha hJ
      have e : i = n := by omega
      subst e
      exact LCg.CompRest.zero (fin o tl ys hy hp ha hJ)
    | succ j ih =>
      intro i ys o tl hi hy hp ha hJ
      refine LCg.CompRest.succ ?_
      intro v I oI C oC D m₂ h tk E' hv hC hx F N off ne
      have o1 := off3_app_iff.mp off.2
      refine wpAny_mono (step i v ys o tl (by omega) hv hy hp ha hJ I oI C oC D m₂ h tk E' hC hx F N off.1.1 off.1.2.1 off.1.2.2 o1.1 o1.2 ne) (fun y s₂ hq => ?_) fun _ _ e => e
      ((k_extra "V1"; obtain ⟨h', tk', nw, e, F', N', off', hS, o', tl', rfl, hp', ha', hJ'⟩ := hq) <;> k_extra "V2")
      exact ⟨h', tk', _, e, F', N', off', hS, ih (i + 1) _ o' tl' (by omega) (by simp [hy]) hp' ha' hJ'⟩
  exact key n 0 [] o₀ [] (by omega) rfl (fun _ h => nomatch h) Apart.nil h0
theorem cpost_pure {J : Nat → List (Addr × Obj) → List Value → Prop} {i : Nat} {ys : List Value} {y : Value} {I C D : Addr} {oI oC oD : Obj} {h' : Heap} {tk : Nat} (pre : List (Addr × Obj)) {tl : List (Addr × Obj)}
    (F : Fr h₀ L h' m) (N : News h₀ L h' (pre ++ (I, oI) :: (C, oC) :: (D, oD) :: (tl ++ news₀))) (o1 : LCg.Off3 I C D pre) (o2 : LCg.Off3 I C D tl) (o3 : LCg.Off3 I C D news₀) (a1 : Apart news₀ pre) (a2 : Apart news₀ tl) (hS : S (pre ++ tl ++ news₀)) (hJ : J (i + 1) (pre ++ tl) (ys ++ [y])) :
    LCg.CompEnd h₀ L m s I oI C oC D oD S (CPost J news₀ i ys) y { s with heap := h', toks := tk } :=
  compEnd_pre pre F N o1 (off3_append o2 o3) (by rw [← List.append_assoc]; exact hS) ⟨pre ++ tl, (List.append_assoc _ _ _).symm, a1.app a2, hJ⟩
theorem cpost_mut {J : Nat → Obj → List (Addr × Obj) → List Value → Prop} {p : Addr} {o' : Obj} {i : Nat} {ys : List Value} {y : Value} {I C D : Addr} {oI oC oD : Obj} {h' : Heap} {tk : Nat} (pre : List (Addr × Obj)) {tl : List (Addr × Obj)}
    (F : Fr h₀ L h' m) (N : News h₀ L h' (pre ++ (I, oI) :: (C, oC) :: (D, oD) :: (p, o') :: (tl ++ news₀))) (o1 : LCg.Off3 I C D pre) (p1 : p ≠ I) (p2 : p ≠ C) (p3 : p ≠ D) (o2 : LCg.Off3 I C D tl) (o3 : LCg.Off3 I C D news₀) (q1 : ∀ q ∈ pre, q.1 ≠ p) (q2 : ∀ q ∈ tl, q.1 ≠ p) (a1 : Apart news₀ pre) (a2 : Apart news₀ tl) (hS : S ((p, o') :: (pre ++ tl ++ news₀))) (hJ : J (i + 1) o' (pre ++ tl) (ys ++ [y])) :
    LCg.CompEnd h₀ L m s I oI C oC D oD S (CPostM J p news₀ i ys) y { s with heap := h', toks := tk } := by
  refine LCg.CompEnd.intro F N ((p, o') :: (pre ++ tl ++ news₀)) (fun q hq => ?_) ⟨⟨p1, p2, p3⟩, off3_append (off3_append o1 o2) o3⟩ hS ⟨o', pre ++ tl, rfl, fun q hq => (List.mem_append.mp hq).elim (q1 q) (q2 q), a1.app a2, hJ⟩
  simp only [List.mem_cons, List.mem_append] at hq ⊢
  ((k_extra "V1"; rcases hq with h | h | h | h | (h | h) | h) <;> k_extra "V2") <;> simp [h]
end comps
theorem Apart.ltail {l t : List (Addr × Obj)} {q : Addr × Obj} (h : Apart (q :: l) t) : Apart l t := fun x hx => h x (List.mem_cons_of_mem _ hx)
inductive Spl (p : Addr) (o' : Obj) (fr : List (Addr × Obj)) : List (Addr × Obj) → List (Addr × Obj) → Prop
  | here : Spl p o' fr ((p, o') :: fr) []
  | cons {x : Addr × Obj} {l pre : List (Addr × Obj)} : Spl p o' fr l pre → Spl p o' fr (x :: l) (x :: pre)
  | app {t l pre : List (Addr × Obj)} : Spl p o' fr l pre → Spl p o' fr (t ++ l) (t ++ pre)
theorem Spl.sub {p : Addr} {o' : Obj} {fr l pre : List (Addr × Obj)} (h : Spl p o' fr l pre) : ∀ q ∈ (p, o') :: (pre ++ fr), q ∈ l := by
  induction h with
  | here => intro q hq; simpa using hq
  | cons h ih =>
    intro q hq
    simp only [List.mem_cons, List.mem_append, List.cons_append] at hq ih ⊢
    ((k_extra "V1"; rcases hq with h | h | h | h) <;> k_extra "V2")
    · exact .inr (ih q (.inl h))
    · exact .inl h
    · exact .inr (ih q (.inr (.inl h)))
    · exact .inr (ih q (.inr (.inr h)))
  | app h ih =>
    intro q hq
    simp only [List.mem_cons, List.mem_append] at hq ih ⊢
    ((k_extra "V1"; rcases hq with h | (h | h) | h) <;> k_extra "V2")
    · exact .inr (ih q (.inl h))
    · exact .inl h
    · exact .inr (ih q (.inr (.inl h)))
    · exact .inr (ih q (.inr (.inr h)))
theorem retP_spl {g : Heap} {L : Addr} {s₁ : Shared} {Post : Value → List (Addr × Obj) → Prop} {fl : Flow} {h' : Heap} {tk' : Nat} {m' : Str → Option Value} {p : Addr} {o' : Obj} {fr nl pre : List (Addr × Obj)} 
    (F : Fr g L h' m') (N : News g L h' nl) (S : Spl p o' fr nl pre) (hp : Post (match fl with | .ret v => v | _ => .none) ((p, o') :: (pre ++ fr))) : RetP g L s₁ Post fl { s₁ with heap := h', toks := tk' } :=
  RetP.intro F (fun q hq => N q (S.sub q hq)) hp
inductive SplC (C fr : List (Addr × Obj)) : List (Addr × Obj) → List (Addr × Obj) → Prop
  | here : SplC C fr (C ++ fr) []
  | cons {x : Addr × Obj} {l pre : List (Addr × Obj)} : SplC C fr l pre → SplC C fr (x :: l) (x :: pre)
  | app {t l pre : List (Addr × Obj)} : SplC C fr l pre → SplC C fr (t ++ l) (t ++ pre)
theorem SplC.sub {C fr l pre : List (Addr × Obj)} (h : SplC C fr l pre) : ∀ q ∈ C ++ (pre ++ fr), q ∈ l := by
  induction h with
  | here => intro q hq; simpa using hq
  | cons h ih =>
    intro q hq
    simp only [List.mem_cons, List.mem_append, List.cons_append] at hq ih ⊢
    ((k_extra "V1"; rcases hq with h | (h | h | h)) <;> k_extra "V2")
    · exact .inr (ih q (.inl h))
    · exact .inl h
    · exact .inr (ih q (.inr (.inl h)))
    · exact .inr (ih q (.inr (.inr h)))
  | app h ih =>
    intro q hq
    simp only [List.mem_append] at hq ih ⊢
    ((k_extra "V1"; rcases hq with h | ((h | h) | h)) <;> k_extra "V2")
    · exact .inr (ih q (.inl h))
    · exact .inl h
    · exact .inr (ih q (.inr (.inl h)))
    · exact .inr (ih q (.inr (.inr h)))
theorem news_spl {g h : Heap} {L : Addr} {C fr l pre : List (Addr × Obj)} (N : News g L h l) (S : SplC C fr l pre) : News g L h (C ++ (pre ++ fr)) := fun q hq => N q (S.sub q hq)
theorem retP_splC {g : Heap} {L : Addr} {s₁ : Shared} {Post : Value → List (Addr × Obj) → Prop} {fl : Flow} {h' : Heap} {tk' : Nat} {m' : Str → Option Value} {C fr nl pre : List (Addr × Obj)}
    (F : Fr g L h' m') (N : News g L h' nl) (S : SplC C fr nl pre) (hp : Post (match fl with | .ret v => v | _ => .none) (C ++ (pre ++ fr))) : RetP g L s₁ Post fl { s₁ with heap := h', toks := tk' } :=
  RetP.intro F (fun q hq => N q (S.sub q hq)) hp
theorem RetP.mono {g : Heap} {L : Addr} {s₁ s₂ : Shared} {P₁ P₂ : Value → List (Addr × Obj) → Prop} {fl : Flow} {s' : Shared} (hs : s₂ = { s₁ with heap := s₂.heap, toks := s₂.toks }) (h : RetP g L s₂ P₁ fl s') (hm : ∀ v n, P₁ v n → P₂ v n) : RetP g L s₁ P₂ fl s' := by
  ((k_extra "V1"; obtain ⟨h', tk', m', news', e, F, N, p⟩ := h) <;> k_extra "V2")
  refine ⟨h', tk', m', news', ?_, F, N, hm _ _ p⟩
  rw [e, hs]
theorem splC2 {a b : Addr × Obj} {fr : List (Addr × Obj)} : SplC [a, b] fr (a :: b :: fr) [] := SplC.here
theorem splC3 {a b c : Addr × Obj} {fr : List (Addr × Obj)} : SplC [a, b, c] fr (a :: b :: c :: fr) [] := SplC.here
theorem splC4 {a b c d : Addr × Obj} {fr : List (Addr × Obj)} : SplC [a, b, c, d] fr (a :: b :: c :: d :: fr) [] := SplC.here
theorem splC5 {a b c d e : Addr × Obj} {fr : List (Addr × Obj)} : SplC [a, b, c, d, e] fr (a :: b :: c :: d :: e :: fr) [] := SplC.here
theorem q_room {a b c d : Nat} (h : a + b < d) (hc : c ≤ b) : a + c < d := Nat.lt_of_le_of_lt (Nat.add_le_add_left hc a) h
theorem q_room0 {a b d : Nat} (h : a + b < d) : a < d := Nat.lt_of_le_of_lt (Nat.le_add_right a b) h
theorem q_le {a b c : Nat} (h : a ≤ b) (hc : b ≤ c) : a ≤ c := Nat.le_trans h hc
theorem q_lt {a b c : Nat} (h : a ≤ b) (hc : b < c) : a < c := Nat.lt_of_le_of_lt h hc
theorem q_ltl {a b c : Int} (h : a < b) (hc : b ≤ c) : a < c := Int.lt_of_lt_of_le h hc
theorem q_eq {a b c k : Nat} (h : a = b) (h2 : b ≤ k) (hk : k ≤ c) : a ≤ c := h ▸ Nat.le_trans h2 hk
theorem q_ile {a b c : Int} (h : a ≤ b) (hc : b ≤ c) : a ≤ c := Int.le_trans h hc
theorem q_ilt {a b c : Int} (h : a ≤ b) (hc : b < c) : a < c := Int.lt_of_le_of_lt h hc
theorem q_neg {x : Int} {n : Nat} (h : 0 ≤ x) : -(2 : Int) ^ n < x := Int.lt_of_lt_of_le (Int.neg_neg_of_pos (Int.pow_pos (by decide))) h
theorem q_neg1 {x : Int} {n : Nat} (h : 1 ≤ x) : -(2 : Int) ^ n < x := q_neg (Int.le_trans (by decide) h)
theorem q_big {x k : Int} (h : x ≤ k) (hk : k < 2 ^ 62) : x < 2 ^ 1920 := Int.lt_of_le_of_lt h (Int.lt_trans hk (Int.pow_lt_pow_of_lt (by decide) (by decide)))
theorem st_any {prog : Program} {w : World} {A : Around} {α : Type} {X : Sem α} {Q : α → Shared → Prop} {E : Value → Shared → Prop} {h : Heap} {g : Array GenState} {d : Drawn} {t : Nat} {o : OsState} (H : ∀ t', wpAny (model prog w) A X Q E (Shared.mk h g d t' o)) : wpAny (model prog w) A X Q E (Shared.mk h g d (t + 1) o) := H _
theorem CallC.gen {w : World} {f : Addr} {dc uc : Nat} {vs : List Value} {news : List (Addr × Obj)} {Post : Value → List (Addr × Obj) → Prop} (h : ∀ P' : Value → List (Addr × Obj) → Prop, (∀ r n, Post r n → P' r n) → CallC w f dc uc vs news P') : CallC w f dc uc vs news Post := h Post fun _ _ p => p
section
theorem via_ {G : Prop} (k : ∀ X : Prop, (G → X) → X) : G := k G id
def Goal_ (p : Prop) : Prop := p
theorem goal_ {p : Prop} (h : p) : Goal_ p = True := eq_true h
theorem of_goal_ {p : Prop} (h : Goal_ p) : p := h
variable {d x a : Addr} {o : Obj} {l l2 r : List (Addr × Obj)} {G : Prop} {q : Addr × Obj}
theorem ltE1 {a0 : Addr} {o0 : Obj} (h : AllLt d ((a0, o0) :: l)) (k : @LT.lt Nat _ a0 d → AllLt d l → G) : G := k h.1 h.2
theorem ltR1 {a0 : Addr} {o0 : Obj} (k : @LT.lt Nat _ a0 d → AllLt d l → G) (h : ∀ p ∈ (a0, o0) :: l, p.1 < d) : G := ltE1 (allLt_of h) k
theorem ltX1 {a0 : Addr} {o0 : Obj} (h : AllLt d ((a0, o0) :: l)) (e : @LT.lt Nat _ d x) (k : @LT.lt Nat _ a0 d → @LT.lt Nat _ a0 x → AllLt d l → AllLt x l → G) : G := k h.1 (Nat.lt_trans h.1 e) h.2 (allLt_mono h.2 (Or.inl e))
theorem ltE2 {a0 a1 : Addr} {o0 o1 : Obj} (h : AllLt d ((a0, o0) :: (a1, o1) :: l)) (k : @LT.lt Nat _ a0 d → @LT.lt Nat _ a1 d → AllLt d l → G) : G := k h.1 h.2.1 h.2.2
theorem ltR2 {a0 a1 : Addr} {o0 o1 : Obj} (k : @LT.lt Nat _ a0 d → @LT.lt Nat _ a1 d → AllLt d l → G) (h : ∀ p ∈ (a0, o0) :: (a1, o1) :: l, p.1 < d) : G := ltE2 (allLt_of h) k
theorem ltX2 {a0 a1 : Addr} {o0 o1 : Obj} (h : AllLt d ((a0, o0) :: (a1, o1) :: l)) (e : @LT.lt Nat _ d x) (k : @LT.lt Nat _ a0 d → @LT.lt Nat _ a0 x → @LT.lt Nat _ a1 d → @LT.lt Nat _ a1 x → AllLt d l → AllLt x l → G) : G := k h.1 (Nat.lt_trans h.1 e) h.2.1 (Nat.lt_trans h.2.1 e) h.2.2 (allLt_mono h.2.2 (Or.inl e))
theorem ltE3 {a0 a1 a2 : Addr} {o0 o1 o2 : Obj} (h : AllLt d ((a0, o0) :: (a1, o1) :: (a2, o2) :: l)) (k : @LT.lt Nat _ a0 d → @LT.lt Nat _ a1 d → @LT.lt Nat _ a2 d → AllLt d l → G) : G := k h.1 h.2.1 h.2.2.1 h.2.2.2
theorem ltR3 {a0 a1 a2 : Addr} {o0 o1 o2 : Obj} (k : @LT.lt Nat _ a0 d → @LT.lt Nat _ a1 d → @LT.lt Nat _ a2 d → AllLt d l → G) (h : ∀ p ∈ (a0, o0) :: (a1, o1) :: (a2, o2) :: l, p.1 < d) : G := ltE3 (allLt_of h) k
theorem ltX3 {a0 a1 a2 : Addr} {o0 o1 o2 : Obj} (h : AllLt d ((a0, o0) :: (a1, o1) :: (a2, o2) :: l)) (e : @LT.lt Nat _ d x) (k : @LT.lt Nat _ a0 d → @LT.lt Nat _ a0 x → @LT.lt Nat _ a1 d → @LT.lt Nat _ a1 x → @LT.lt Nat _ a2 d → @LT.lt Nat _ a2 x → AllLt d l → AllLt x l → G) : G := k h.1 (Nat.lt_trans h.1 e) h.2.1 (Nat.lt_trans h.2.1 e) h.2.2.1 (Nat.lt_trans h.2.2.1 e) h.2.2.2 (allLt_mono h.2.2.2 (Or.inl e))
theorem ltE4 {a0 a1 a2 a3 : Addr} {o0 o1 o2 o3 : Obj} (h : AllLt d ((a0, o0) :: (a1, o1) :: (a2, o2) :: (a3, o3) :: l)) (k : @LT.lt Nat _ a0 d → @LT.lt Nat _ a1 d → @LT.lt Nat _ a2 d → @LT.lt Nat _ a3 d → AllLt d l → G) : G := k h.1 h.2.1 h.2.2.1 h.2.2.2.1 h.2.2.2.2
theorem ltR4 {a0 a1 a2 a3 : Addr} {o0 o1 o2 o3 : Obj} (k : @LT.lt Nat _ a0 d → @LT.lt Nat _ a1 d → @LT.lt Nat _ a2 d → @LT.lt Nat _ a3 d → AllLt d l → G) (h : ∀ p ∈ (a0, o0) :: (a1, o1) :: (a2, o2) :: (a3, o3) :: l, p.1 < d) : G := ltE4 (allLt_of h) k
theorem ltX4 {a0 a1 a2 a3 : Addr} {o0 o1 o2 o3 : Obj} (h : AllLt d ((a0, o0) :: (a1, o1) :: (a2, o2) :: (a3, o3) :: l)) (e : @LT.lt Nat _ d x) (k : @LT.lt Nat _ a0 d → @LT.lt Nat _ a0 x → @LT.lt Nat _ a1 d → @LT.lt Nat _ a1 x → @LT.lt Nat _ a2 d → @LT.lt Nat _ a2 x → @LT.lt Nat _ a3 d → @LT.lt Nat _ a3 x → AllLt d l → AllLt x l → G) : G := k h.1 (Nat.lt_trans h.1 e) h.2.1 (Nat.lt_trans h.2.1 e) h.2.2.1 (Nat.lt_trans h.2.2.1 e) h.2.2.2.1 (Nat.lt_trans h.2.2.2.1 e) h.2.2.2.2 (allLt_mono h.2.2.2.2 (Or.inl e))
theorem ltE5 {a0 a1 a2 a3 a4 : Addr} {o0 o1 o2 o3 o4 : Obj} (h : AllLt d ((a0, o0) :: (a1, o1) :: (a2, o2) :: (a3, o3) :: (a4, o4) :: l)) (k : @LT.lt Nat _ a0 d → @LT.lt Nat _ a1 d → @LT.lt Nat _ a2 d → @LT.lt Nat _ a3 d → @LT.lt Nat _ a4 d → AllLt d l → G) : G := k h.1 h.2.1 h.2.2.1 h.2.2.2.1 h.2.2.2.2.1 h.2.2.2.2.2
theorem ltR5 {a0 a1 a2 a3 a4 : Addr} {o0 o1 o2 o3 o4 : Obj} (k : @LT.lt Nat _ a0 d → @LT.lt Nat _ a1 d → @LT.lt Nat _ a2 d → @LT.lt Nat _ a3 d → @LT.lt Nat _ a4 d → AllLt d l → G) (h : ∀ p ∈ (a0, o0) :: (a1, o1) :: (a2, o2) :: (a3, o3) :: (a4, o4) :: l, p.1 < d) : G := ltE5 (allLt_of h) k
theorem ltX5 {a0 a1 a2 a3 a4 : Addr} {o0 o1 o2 o3 o4 : Obj} (h : AllLt d ((a0, o0) :: (a1, o1) :: (a2, o2) :: (a3, o3) :: (a4, o4) :: l)) (e : @LT.lt Nat _ d x) (k : @LT.lt Nat _ a0 d → @LT.lt Nat _ a0 x → @LT.lt Nat _ a1 d → @LT.lt Nat _ a1 x → @LT.lt Nat _ a2 d → @LT.lt Nat _ a2 x → @LT.lt Nat _ a3 d → @LT.lt Nat _ a3 x → @LT.lt Nat _ a4 d → @LT.lt Nat _ a4 x → AllLt d l → AllLt x l → G) : G := k h.1 (Nat.lt_trans h.1 e) h.2.1 (Nat.lt_trans h.2.1 e) h.2.2.1 (Nat.lt_trans h.2.2.1 e) h.2.2.2.1 (Nat.lt_trans h.2.2.2.1 e) h.2.2.2.2.1 (Nat.lt_trans h.2.2.2.2.1 e) h.2.2.2.2.2 (allLt_mono h.2.2.2.2.2 (Or.inl e))
theorem ltE6 {a0 a1 a2 a3 a4 a5 : Addr} {o0 o1 o2 o3 o4 o5 : Obj} (h : AllLt d ((a0, o0) :: (a1, o1) :: (a2, o2) :: (a3, o3) :: (a4, o4) :: (a5, o5) :: l)) (k : @LT.lt Nat _ a0 d → @LT.lt Nat _ a1 d → @LT.lt Nat _ a2 d → @LT.lt Nat _ a3 d → @LT.lt Nat _ a4 d → @LT.lt Nat _ a5 d → AllLt d l → G) : G := k h.1 h.2.1 h.2.2.1 h.2.2.2.1 h.2.2.2.2.1 h.2.2.2.2.2.1 h.2.2.2.2.2.2
theorem ltR6 {a0 a1 a2 a3 a4 a5 : Addr} {o0 o1 o2 o3 o4 o5 : Obj} (k : @LT.lt Nat _ a0 d → @LT.lt Nat _ a1 d → @LT.lt Nat _ a2 d → @LT.lt Nat _ a3 d → @LT.lt Nat _ a4 d → @LT.lt Nat _ a5 d → AllLt d l → G) (h : ∀ p ∈ (a0, o0) :: (a1, o1) :: (a2, o2) :: (a3, o3) :: (a4, o4) :: (a5, o5) :: l, p.1 < d) : G := ltE6 (allLt_of h) k
theorem ltX6 {a0 a1 a2 a3 a4 a5 : Addr} {o0 o1 o2 o3 o4 o5 : Obj} (h : AllLt d ((a0, o0) :: (a1, o1) :: (a2, o2) :: (a3, o3) :: (a4, o4) :: (a5, o5) :: l)) (e : @LT.lt Nat _ d x) (k : @LT.lt Nat _ a0 d → @LT.lt Nat _ a0 x → @LT.lt Nat _ a1 d → @LT.lt Nat _ a1 x → @LT.lt Nat _ a2 d → @LT.lt Nat _ a2 x → @LT.lt Nat _ a3 d → @LT.lt Nat _ a3 x → @LT.lt Nat _ a4 d → @LT.lt Nat _ a4 x → @LT.lt Nat _ a5 d → @LT.lt Nat _ a5 x → AllLt d l → AllLt x l → G) : G := k h.1 (Nat.lt_trans h.1 e) h.2.1 (Nat.lt_trans h.2.1 e) h.2.2.1 (Nat.lt_trans h.2.2.1 e) h.2.2.2.1 (Nat.lt_trans h.2.2.2.1 e) h.2.2.2.2.1 (Nat.lt_trans h.2.2.2.2.1 e) h.2.2.2.2.2.1 (Nat.lt_trans h.2.2.2.2.2.1 e) h.2.2.2.2.2.2 (allLt_mono h.2.2.2.2.2.2 (Or.inl e))
theorem ltE7 {a0 a1 a2 a3 a4 a5 a6 : Addr} {o0 o1 o2 o3 o4 o5 o6 : Obj} (h : AllLt d ((a0, o0) :: (a1, o1) :: (a2, o2) :: (a3, o3) :: (a4, o4) :: (a5, o5) :: (a6, o6) :: l)) (k : @LT.lt Nat _ a0 d → @LT.lt Nat _ a1 d → @LT.lt Nat _ a2 d → @LT.lt Nat _ a3 d → @LT.lt Nat _ a4 d → @LT.lt Nat _ a5 d → @LT.lt Nat _ a6 d → AllLt d l → G) : G := k h.1 h.2.1 h.2.2.1 h.2.2.2.1 h.2.2.2.2.1 h.2.2.2.2.2.1 h.2.2.2.2.2.2.1 h.2.2.2.2.2.2.2
theorem ltR7 {a0 a1 a2 a3 a4 a5 a6 : Addr} {o0 o1 o2 o3 o4 o5 o6 : Obj} (k : @LT.lt Nat _ a0 d → @LT.lt Nat _ a1 d → @LT.lt Nat _ a2 d → @LT.lt Nat _ a3 d → @LT.lt Nat _ a4 d → @LT.lt Nat _ a5 d → @LT.lt Nat _ a6 d → AllLt d l → G) (h : ∀ p ∈ (a0, o0) :: (a1, o1) :: (a2, o2) :: (a3, o3) :: (a4, o4) :: (a5, o5) :: (a6, o6) :: l, p.1 < d) : G := ltE7 (allLt_of h) k
theorem ltX7 {a0 a1 a2 a3 a4 a5 a6 : Addr} {o0 o1 o2 o3 o4 o5 o6 : Obj} (h : AllLt d ((a0, o0) :: (a1, o1) :: (a2, o2) :: (a3, o3) :: (a4, o4) :: (a5, o5) :: (a6, o6) :: l)) (e : @LT.lt Nat _ d x) (k : @LT.lt Nat _ a0 d → @LT.lt Nat _ a0 x → @LT.lt Nat _ a1 d → @LT.lt Nat _ a1 x → @LT.lt Nat _ a2 d → @LT.lt Nat _ a2 x → @LT.lt Nat _ a3 d → @LT.lt Nat _ a3 x → @LT.lt Nat _ a4 d → @LT.lt Nat _ a4 x → @LT.lt Nat _ a5 d → @LT.lt Nat _ a5 x → @LT.lt Nat _ a6 d → @LT.lt Nat _ a6 x → AllLt d l → AllLt x l → G) : G := k h.1 (Nat.lt_trans h.1 e) h.2.1 (Nat.lt_trans h.2.1 e) h.2.2.1 (Nat.lt_trans h.2.2.1 e) h.2.2.2.1 (Nat.lt_trans h.2.2.2.1 e) h.2.2.2.2.1 (Nat.lt_trans h.2.2.2.2.1 e) h.2.2.2.2.2.1 (Nat.lt_trans h.2.2.2.2.2.1 e) h.2.2.2.2.2.2.1 (Nat.lt_trans h.2.2.2.2.2.2.1 e) h.2.2.2.2.2.2.2 (allLt_mono h.2.2.2.2.2.2.2 (Or.inl e))
theorem ltE8 {a0 a1 a2 a3 a4 a5 a6 a7 : Addr} {o0 o1 o2 o3 o4 o5 o6 o7 : Obj} (h : AllLt d ((a0, o0) :: (a1, o1) :: (a2, o2) :: (a3, o3) :: (a4, o4) :: (a5, o5) :: (a6, o6) :: (a7, o7) :: l)) (k : @LT.lt Nat _ a0 d → @LT.lt Nat _ a1 d → @LT.lt Nat _ a2 d → @LT.lt Nat _ a3 d → @LT.lt Nat _ a4 d → @LT.lt Nat _ a5 d → @LT.lt Nat _ a6 d → @LT.lt Nat _ a7 d → AllLt d l → G) : G := k h.1 h.2.1 h.2.2.1 h.2.2.2.1 h.2.2.2.2.1 h.2.2.2.2.2.1 h.2.2.2.2.2.2.1 h.2.2.2.2.2.2.2.1 h.2.2.2.2.2.2.2.2
theorem ltR8 {a0 a1 a2 a3 a4 a5 a6 a7 : Addr} {o0 o1 o2 o3 o4 o5 o6 o7 : Obj} (k : @LT.lt Nat _ a0 d → @LT.lt Nat _ a1 d → @LT.lt Nat _ a2 d → @LT.lt Nat _ a3 d → @LT.lt Nat _ a4 d → @LT.lt Nat _ a5 d → @LT.lt Nat _ a6 d → @LT.lt Nat _ a7 d → AllLt d l → G) (h : ∀ p ∈ (a0, o0) :: (a1, o1) :: (a2, o2) :: (a3, o3) :: (a4, o4) :: (a5, o5) :: (a6, o6) :: (a7, o7) :: l, p.1 < d) : G := ltE8 (allLt_of h) k
theorem ltX8 {a0 a1 a2 a3 a4 a5 a6 a7 : Addr} {o0 o1 o2 o3 o4 o5 o6 o7 : Obj} (h : AllLt d ((a0, o0) :: (a1, o1) :: (a2, o2) :: (a3, o3) :: (a4, o4) :: (a5, o5) :: (a6, o6) :: (a7, o7) :: l)) (e : @LT.lt Nat _ d x) (k : @LT.lt Nat _ a0 d → @LT.lt Nat _ a0 x → @LT.lt Nat _ a1 d → @LT.lt Nat _ a1 x → @LT.lt Nat _ a2 d → @LT.lt Nat _ a2 x → @LT.lt Nat _ a3 d → @LT.lt Nat _ a3 x → @LT.lt Nat _ a4 d → @LT.lt Nat _ a4 x → @LT.lt Nat _ a5 d → @LT.lt Nat _ a5 x → @LT.lt Nat _ a6 d → @LT.lt Nat _ a6 x → @LT.lt Nat _ a7 d → @LT.lt Nat _ a7 x → AllLt d l → AllLt x l → G) : G := k h.1 (Nat.lt_trans h.1 e) h.2.1 (Nat.lt_trans h.2.1 e) h.2.2.1 (Nat.lt_trans h.2.2.1 e) h.2.2.2.1 (Nat.lt_trans h.2.2.2.1 e) h.2.2.2.2.1 (Nat.lt_trans h.2.2.2.2.1 e) h.2.2.2.2.2.1 (Nat.lt_trans h.2.2.2.2.2.1 e) h.2.2.2.2.2.2.1 (Nat.lt_trans h.2.2.2.2.2.2.1 e) h.2.2.2.2.2.2.2.1 (Nat.lt_trans h.2.2.2.2.2.2.2.1 e) h.2.2.2.2.2.2.2.2 (allLt_mono h.2.2.2.2.2.2.2.2 (Or.inl e))
theorem ltE9 {a0 a1 a2 a3 a4 a5 a6 a7 a8 : Addr} {o0 o1 o2 o3 o4 o5 o6 o7 o8 : Obj} (h : AllLt d ((a0, o0) :: (a1, o1) :: (a2, o2) :: (a3, o3) :: (a4, o4) :: (a5, o5) :: (a6, o6) :: (a7, o7) :: (a8, o8) :: l)) (k : @LT.lt Nat _ a0 d → @LT.lt Nat _ a1 d → @LT.lt Nat _ a2 d → @LT.lt Nat _ a3 d → @LT.lt Nat _ a4 d → @LT.lt Nat _ a5 d → @LT.lt Nat _ a6 d → @LT.lt Nat _ a7 d → @LT.lt Nat _ a8 d → AllLt d l → G) : G := k h.1 h.2.1 h.2.2.1 h.2.2.2.1 h.2.2.2.2.1 h.2.2.2.2.2.1 h.2.2.2.2.2.2.1 h.2.2.2.2.2.2.2.1 h.2.2.2.2.2.2.2.2.1 h.2.2.2.2.2.2.2.2.2
theorem ltR9 {a0 a1 a2 a3 a4 a5 a6 a7 a8 : Addr} {o0 o1 o2 o3 o4 o5 o6 o7 o8 : Obj} (k : @LT.lt Nat _ a0 d → @LT.lt Nat _ a1 d → @LT.lt Nat _ a2 d → @LT.lt Nat _ a3 d → @LT.lt Nat _ a4 d → @LT.lt Nat _ a5 d → @LT.lt Nat _ a6 d → @LT.lt Nat _ a7 d → @LT.lt Nat _ a8 d → AllLt d l → G) (h : ∀ p ∈ (a0, o0) :: (a1, o1) :: (a2, o2) :: (a3, o3) :: (a4, o4) :: (a5, o5) :: (a6, o6) :: (a7, o7) :: (a8, o8) :: l, p.1 < d) : G := ltE9 (allLt_of h) k
theorem ltX9 {a0 a1 a2 a3 a4 a5 a6 a7 a8 : Addr} {o0 o1 o2 o3 o4 o5 o6 o7 o8 : Obj} (h : AllLt d ((a0, o0) :: (a1, o1) :: (a2, o2) :: (a3, o3) :: (a4, o4) :: (a5, o5) :: (a6, o6) :: (a7, o7) :: (a8, o8) :: l)) (e : @LT.lt Nat _ d x) (k : @LT.lt Nat _ a0 d → @LT.lt Nat _ a0 x → @LT.lt Nat _ a1 d → @LT.lt Nat _ a1 x → @LT.lt Nat _ a2 d → @LT.lt Nat _ a2 x → @LT.lt Nat _ a3 d → @LT.lt Nat _ a3 x → @LT.lt Nat _ a4 d → @LT.lt Nat _ a4 x → @LT.lt Nat _ a5 d → @LT.lt Nat _ a5 x → @LT.lt Nat _ a6 d → @LT.lt Nat _ a6 x → @LT.lt Nat _ a7 d → @LT.lt Nat _ a7 x → @LT.lt Nat _ a8 d → @LT.lt Nat _ a8 x → AllLt d l → AllLt x l → G) : G := k h.1 (Nat.lt_trans h.1 e) h.2.1 (Nat.lt_trans h.2.1 e) h.2.2.1 (Nat.lt_trans h.2.2.1 e) h.2.2.2.1 (Nat.lt_trans h.2.2.2.1 e) h.2.2.2.2.1 (Nat.lt_trans h.2.2.2.2.1 e) h.2.2.2.2.2.1 (Nat.lt_trans h.2.2.2.2.2.1 e) h.2.2.2.2.2.2.1 (Nat.lt_trans h.2.2.2.2.2.2.1 e) h.2.2.2.2.2.2.2.1 (Nat.lt_trans h.2.2.2.2.2.2.2.1 e) h.2.2.2.2.2.2.2.2.1 (Nat.lt_trans h.2.2.2.2.2.2.2.2.1 e) h.2.2.2.2.2.2.2.2.2 (allLt_mono h.2.2.2.2.2.2.2.2.2 (Or.inl e))
theorem ltE10 {a0 a1 a2 a3 a4 a5 a6 a7 a8 a9 : Addr} {o0 o1 o2 o3 o4 o5 o6 o7 o8 o9 : Obj} (h : AllLt d ((a0, o0) :: (a1, o1) :: (a2, o2) :: (a3, o3) :: (a4, o4) :: (a5, o5) :: (a6, o6) :: (a7, o7) :: (a8, o8) :: (a9, o9) :: l)) (k : @LT.lt Nat _ a0 d → @LT.lt Nat _ a1 d → @LT.lt Nat _ a2 d → @LT.lt Nat _ a3 d → @LT.lt Nat _ a4 d → @LT.lt Nat _ a5 d → @LT.lt Nat _ a6 d → @LT.lt Nat _ a7 d → @LT.lt Nat _ a8 d → @LT.lt Nat _ a9 d → AllLt d l → G) : G := k h.1 h.2.1 h.2.2.1 h.2.2.2.1 h.2.2.2.2.1 h.2.2.2.2.2.1 h.2.2.2.2.2.2.1 h.2.2.2.2.2.2.2.1 h.2.2.2.2.2.2.2.2.1 h.2.2.2.2.2.2.2.2.2.1 h.2.2.2.2.2.2.2.2.2.2
theorem ltR10 {a0 a1 a2 a3 a4 a5 a6 a7 a8 a9 : Addr} {o0 o1 o2 o3 o4 o5 o6 o7 o8 o9 : Obj} (k : @LT.lt Nat _ a0 d → @LT.lt Nat _ a1 d → @LT.lt Nat _ a2 d → @LT.lt Nat _ a3 d → @LT.lt Nat _ a4 d → @LT.lt Nat _ a5 d → @LT.lt Nat _ a6 d → @LT.lt Nat _ a7 d → @LT.lt Nat _ a8 d → @LT.lt Nat _ a9 d → AllLt d l → G) (h : ∀ p ∈ (a0, o0) :: (a1, o1) :: (a2, o2) :: (a3, o3) :: (a4, o4) :: (a5, o5) :: (a6, o6) :: (a7, o7) :: (a8, o8) :: (a9, o9) :: l, p.1 < d) : G := ltE10 (allLt_of h) k
theorem ltX10 {a0 a1 a2 a3 a4 a5 a6 a7 a8 a9 : Addr} {o0 o1 o2 o3 o4 o5 o6 o7 o8 o9 : Obj} (h : AllLt d ((a0, o0) :: (a1, o1) :: (a2, o2) :: (a3, o3) :: (a4, o4) :: (a5, o5) :: (a6, o6) :: (a7, o7) :: (a8, o8) :: (a9, o9) :: l)) (e : @LT.lt Nat _ d x) (k : @LT.lt Nat _ a0 d → @LT.lt Nat _ a0 x → @LT.lt Nat _ a1 d → @LT.lt Nat _ a1 x → @LT.lt Nat _ a2 d → @LT.lt Nat _ a2 x → @LT.lt Nat _ a3 d → @LT.lt Nat _ a3 x → @LT.lt Nat _ a4 d → @LT.lt Nat _ a4 x → @LT.lt Nat _ a5 d → @LT.lt Nat _ a5 x → @LT.lt Nat _ a6 d → @LT.lt Nat _ a6 x → @LT.lt Nat _ a7 d → @LT.lt Nat _ a7 x → @LT.lt Nat _ a8 d → @LT.lt Nat _ a8 x → @LT.lt Nat _ a9 d → @LT.lt Nat _ a9 x → AllLt d l → AllLt x l → G) : G := k h.1 (Nat.lt_trans h.1 e) h.2.1 (Nat.lt_trans h.2.1 e) h.2.2.1 (Nat.lt_trans h.2.2.1 e) h.2.2.2.1 (Nat.lt_trans h.2.2.2.1 e) h.2.2.2.2.1 (Nat.lt_trans h.2.2.2.2.1 e) h.2.2.2.2.2.1 (Nat.lt_trans h.2.2.2.2.2.1 e) h.2.2.2.2.2.2.1 (Nat.lt_trans h.2.2.2.2.2.2.1 e) h.2.2.2.2.2.2.2.1 (Nat.lt_trans h.2.2.2.2.2.2.2.1 e) h.2.2.2.2.2.2.2.2.1 (Nat.lt_trans h.2.2.2.2.2.2.2.2.1 e) h.2.2.2.2.2.2.2.2.2.1 (Nat.lt_trans h.2.2.2.2.2.2.2.2.2.1 e) h.2.2.2.2.2.2.2.2.2.2 (allLt_mono h.2.2.2.2.2.2.2.2.2.2 (Or.inl e))
theorem ltR0 (k : AllLt d l → G) (h : ∀ p ∈ l, p.1 < d) : G := k (allLt_of h)
theorem ltX0 (h : AllLt d l) (e : @LT.lt Nat _ d x) (k : AllLt d l → AllLt x l → G) : G := k h (allLt_mono h (Or.inl e))
theorem ltEapp (h : AllLt d (l ++ r)) (k : AllLt d l → AllLt d r → G) : G := k (allLt_append.mp h).1 (allLt_append.mp h).2
theorem ltEnil (h : AllLt d ([] ++ r)) (k : AllLt d r → G) : G := k h
theorem ltEcapp (h : AllLt d ((q :: l) ++ r)) (k : AllLt d (q :: (l ++ r)) → G) : G := k h
theorem ne_cons (h : a ≠ d) (t : ∀ p ∈ l, p.1 ≠ d) : ∀ p ∈ (a, o) :: l, p.1 ≠ d := List.forall_mem_cons.mpr ⟨h, t⟩
theorem ne_consq (h : q.1 ≠ d) (t : ∀ p ∈ l, p.1 ≠ d) : ∀ p ∈ q :: l, p.1 ≠ d := List.forall_mem_cons.mpr ⟨h, t⟩
theorem ne_app (h : ∀ p ∈ l, p.1 ≠ d) (t : ∀ p ∈ r, p.1 ≠ d) : ∀ p ∈ l ++ r, p.1 ≠ d := List.forall_mem_append.mpr ⟨h, t⟩
theorem ne_nil : ∀ p ∈ ([] : List (Addr × Obj)), p.1 ≠ d := List.forall_mem_nil _
theorem upd_hd {zd : Addr} {z1 z2 : Obj} {zl : List (Addr × Obj)} (zq1 : ∀ p ∈ zl, p.1 ≠ zd) : Upd zd z1 z2 ((zd, z1) :: zl) ((zd, z2) :: zl) := .head zq1
theorem upd_tail {zd za : Addr} {zo z1 z2 : Obj} {zl zr : List (Addr × Obj)} (zq1 : za ≠ zd) (zq2 : Upd zd z1 z2 zl zr) : Upd zd z1 z2 ((za, zo) :: zl) ((za, zo) :: zr) := .tail zq1 zq2
theorem upd_ap {zd : Addr} {z1 z2 : Obj} {zt zl zr : List (Addr × Obj)} (zq1 : ∀ p ∈ zt, p.1 ≠ zd) (zq2 : Upd zd z1 z2 zl zr) : Upd zd z1 z2 (zt ++ zl) (zt ++ zr) := upd_app zq1 zq2
theorem updF_hd {zd : Addr} {z1 : Obj} {zl : List (Addr × Obj)} (zq1 : ∀ p ∈ zl, p.1 ≠ zd) : UpdF zd z1 ((zd, z1) :: zl) (fun o2 => (zd, o2) :: zl) := .head zq1
theorem updF_tail {zd za : Addr} {zo z1 : Obj} {zl : List (Addr × Obj)} {zg : Obj → List (Addr × Obj)} (zq1 : za ≠ zd) (zq2 : UpdF zd z1 zl zg) : UpdF zd z1 ((za, zo) :: zl) (fun o2 => (za, zo) :: zg o2) := .tail zq1 zq2
theorem updF_ap {zd : Addr} {z1 : Obj} {zt zl : List (Addr × Obj)} {zg : Obj → List (Addr × Obj)} (zq1 : ∀ p ∈ zt, p.1 ≠ zd) (zq2 : UpdF zd z1 zl zg) : UpdF zd z1 (zt ++ zl) (fun o2 => zt ++ zg o2) := updF_app zq1 zq2
theorem sub_cons (h : q ∈ r) (t : ∀ p ∈ l, p ∈ r) : ∀ p ∈ q :: l, p ∈ r := List.forall_mem_cons.mpr ⟨h, t⟩
theorem sub_app (h : ∀ p ∈ l, p ∈ r) (t : ∀ p ∈ l2, p ∈ r) : ∀ p ∈ l ++ l2, p ∈ r := List.forall_mem_append.mpr ⟨h, t⟩
theorem sub_nil : ∀ p ∈ ([] : List (Addr × Obj)), p ∈ r := List.forall_mem_nil _
theorem sub_self : ∀ p ∈ l, p ∈ l := fun _ h => h
theorem sub_tl (h : ∀ p ∈ l, p ∈ r) : ∀ p ∈ l, p ∈ q :: r := fun p m => List.mem_cons_of_mem _ (h p m)
theorem sub_inl (h : ∀ p ∈ l, p ∈ r) : ∀ p ∈ l, p ∈ r ++ l2 := fun p m => List.mem_append_left _ (h p m)
theorem sub_inr (h : ∀ p ∈ l, p ∈ r) : ∀ p ∈ l, p ∈ l2 ++ r := fun p m => List.mem_append_right _ (h p m)
theorem news_sub {g h : Heap} {L : Addr} (N : News g L h r) (s : ∀ p ∈ l, p ∈ r) : News g L h l := fun p m => N p (s p m)
def NextQ (M : Model) (A : Around) (rest : List Stmt) (env : Env) (Q : Flow → Shared → Prop) (E : Value → Shared → Prop) (f : Flow) (s : Shared) : Prop := match f with
  | .next => wpAny M A (execs rest env) Q E s
  | f => Q f s
section
variable {M : Model} {A : Around} {st : Stmt} {rest : List Stmt} {env : Env} {Q : Flow → Shared → Prop} {E : Value → Shared → Prop} {v : Value} {s : Shared}
theorem execsN (h : wpAny M A (exec st env) (NextQ M A rest env Q E) E s) : wpAny M A (execs (st :: rest) env) Q E s := wpAny_execs_cons h
theorem execs1 (h : wpAny M A (exec st env) Q E s) : wpAny M A (execs [st] env) Q E s := wpAny_execs_cons (wpAny_mono h (fun f s' q => by cases f <;> first | exact wpAny_execs_nil q | exact q) fun _ _ e => e)
theorem nextQ_n (h : wpAny M A (execs rest env) Q E s) : NextQ M A rest env Q E .next s := h
theorem nextQ_r (h : Q (.ret v) s) : NextQ M A rest env Q E (.ret v) s := h
theorem nextQ_b (h : Q .brk s) : NextQ M A rest env Q E .brk s := h
theorem nextQ_c (h : Q .cont s) : NextQ M A rest env Q E .cont s := h
end
theorem q_c1 {x y k c : Nat} (h1 : x ≤ y) (h2 : y < k) (h : Nat.ble k (c + 1) = true) : x ≤ c := Nat.le_of_lt_succ (Nat.lt_of_lt_of_le (Nat.lt_of_le_of_lt h1 h2) (Nat.le_of_ble_eq_true h))
theorem q_c2 {x y k c : Nat} (h1 : x ≤ y) (h2 : y ≤ k) (h : Nat.ble k c = true) : x ≤ c := Nat.le_trans (Nat.le_trans h1 h2) (Nat.le_of_ble_eq_true h)
theorem q_c3 {x y k c : Nat} (e : x = y) (h2 : y ≤ k) (h : Nat.ble k c = true) : x ≤ c := e ▸ Nat.le_trans h2 (Nat.le_of_ble_eq_true h)
theorem q_c4 {x y z k c : Nat} (e : x = y) (h1 : y ≤ z) (h2 : z < k) (h : Nat.ble k (c + 1) = true) : x ≤ c := e ▸ q_c1 h1 h2 h
theorem q_c5 {x y z b k c : Nat} (e : x = y) (h1 : y ≤ b + z) (h2 : z < k) (h : Nat.ble (b + k) (c + 1) = true) : x ≤ c := e ▸ Nat.le_of_lt_succ (Nat.lt_of_lt_of_le (Nat.lt_of_le_of_lt h1 (Nat.add_lt_add_left h2 b)) (Nat.le_of_ble_eq_true h))
theorem q_c6 {x z b k c : Nat} (h1 : x ≤ b + z) (h2 : z < k) (h : Nat.ble (b + k) (c + 1) = true) : x ≤ c := q_c5 rfl h1 h2 h
theorem q_c7 {x y z k c : Nat} (h1 : x ≤ y) (e : y = z) (h2 : z ≤ k) (h : Nat.ble k c = true) : x ≤ c := q_c2 h1 (e ▸ h2) h
theorem q_c8 {x y k c : Nat} (h1 : x < y) (h2 : y ≤ k) (h : Nat.ble k (c + 1) = true) : x ≤ c := Nat.le_of_lt_succ (Nat.lt_of_lt_of_le (Nat.lt_of_lt_of_le h1 h2) (Nat.le_of_ble_eq_true h))
theorem q_d1 {x y k c : Nat} (h1 : x < y) (h2 : y ≤ k) (h : Nat.ble k c = true) : x < c := Nat.lt_of_lt_of_le (Nat.lt_of_lt_of_le h1 h2) (Nat.le_of_ble_eq_true h)
theorem q_d2 {x y z k c : Nat} (h1 : x < y) (e : y = z) (h2 : z ≤ k) (h : Nat.ble k c = true) : x < c := q_d1 h1 (e ▸ h2) h
theorem q_d3 {x y z : Nat} (h1 : x < y) (e : y = z) : x < z := e ▸ h1
theorem q_d4 {x y z : Nat} (h1 : x < y) (e : z = y) : x < z := e ▸ h1
theorem int_cases {x : Int} {n : Nat} {P : Int → Prop} (h0 : 0 ≤ x) (h1 : x < (n : Int)) (h : ∀ i : Nat, i < n → P (i : Int)) : P x := by
  ((k_extra "V1"; obtain ⟨k, rfl⟩ := Int.eq_ofNat_of_zero_le h0) <;> k_extra "V2")
  exact h k (Int.ofNat_lt.mp h1)
theorem int7 {x : Int} (h0 : 0 ≤ x) (h1 : x < 7) : x = 0 ∨ x = 1 ∨ x = 2 ∨ x = 3 ∨ x = 4 ∨ x = 5 ∨ x = 6 := int_cases (n := 7) (P := fun x => x = 0 ∨ x = 1 ∨ x = 2 ∨ x = 3 ∨ x = 4 ∨ x = 5 ∨ x = 6) h0 h1 (by decide)
theorem int4 {x : Int} (h0 : 0 ≤ x) (h1 : x < 4) : x = 0 ∨ x = 1 ∨ x = 2 ∨ x = 3 := int_cases (n := 4) (P := fun x => x = 0 ∨ x = 1 ∨ x = 2 ∨ x = 3) h0 h1 (by decide)
theorem fin_of {a k m : Int} {n : Nat} (h1 : k ≤ a) (h2 : a ≤ m) (e : m + 1 = k + (n : Int)) : ∃ x : Fin n, a = (x.val : Int) + k := ⟨⟨(a - k).toNat, by omega⟩, by show a = (((a - k).toNat : Nat) : Int) + k; omega⟩
end
set_option compiler.extract_closed false
local macro_rules | `(tactic| k_lt $h) => `(tactic| (revert $h; k_extra "LTR"))
local macro_rules | `(tactic| k_all) => `(tactic| k_extra "Wk_all")
local macro_rules | `(tactic| k_ne) => `(tactic| k_extra "Wk_ne")
local macro_rules | `(tactic| k_upd) => `(tactic| k_extra "Wk_upd")
local macro_rules | `(tactic| k_updF) => `(tactic| k_extra "Wk_updF")
local macro_rules | `(tactic| k_mem) => `(tactic| k_extra "Wk_mem")
local macro_rules | `(tactic| k_room) => `(tactic| k_extra "Wk_room")
local macro_rules | `(tactic| omega) => `(tactic| k_extra "OM")
abbrev penO (c : Addr) (sp : Int) (t1 : Tok) (ac : Int) (t2 : Tok) (n : Nat) : Obj := listOf #[.ref c, .int sp t1, .int ac t2] n
inductive PenInv (c : Addr) (N : Int) (o : Obj) : Prop
  | mk : ∀ (sp : Int) (t1 : Tok) (ac : Int) (t2 : Tok) (n : Nat), o = penO c sp t1 ac t2 n → 0 ≤ sp → sp ≤ N → 0 ≤ ac → PenInv c N o
theorem mix_bound {z sp N : Int} (h1 : 0 ≤ z) (h2 : z < 2147483647) (h3 : 0 ≤ sp) (h4 : sp ≤ N) (h5 : N ≤ 100000) : (z * (2 * sp + 373) + 67289 * sp + 4931).natAbs < 2 ^ 64 := by
  have a : 0 ≤ z * (2 * sp + 373) := Int.mul_nonneg h1 (by omega)
  have b : z * (2 * sp + 373) ≤ 2147483647 * (2 * 100000 + 373) := Int.mul_le_mul (by omega) (by omega) (by omega) (by omega)
  generalize z * (2 * sp + 373) = y at *
  omega
inductive DrawPost (c : Addr) (N many : Int) (rest : Obj → List (Addr × Obj)) (r : Value) (news' : List (Addr × Obj)) : Prop
  | mk : ∀ (d : Int) (t : Tok) (o' : Obj), r = .int d t → 0 ≤ d → d < many → news' = rest o' → PenInv c (N + 1) o' → DrawPost c N many rest r news'
theorem draw_tail (w : World) {sp N many ce : Int} {tc ts tk : Tok} {news : List (Addr × Obj)} {PQ : Value → List (Addr × Obj) → Prop} (h1 : 0 ≤ sp) (h2 : sp ≤ N) (hN : N ≤ 100000) (hm : 0 < many) (hPQ : ∀ d t, 0 ≤ d → d < many → PQ (.int d t) news)
    {dp un : Nat} {gd : Option (List Code)} {outer : List Env} {A₀ : Around} {base g h : Heap} {mean : ExcName → Option Value} {mg mb : Str → Option Value} {L : Addr} {s : Shared} {m : Str → Option Value} {tk0 : Nat} (m1 : m "cell" = some (.int ce tc)) (m2 : m "spot" = some (.int sp ts)) (m3 : m "many" = some (.int many tk))
    (B : Below A₀ base outer g) (F : Fr g L h m) (X : (K w.params).In g) (N' : News g L h news) (T' : TopV mean mg mb g) (hd : dp + 0 < recursionLimit) (hu : un + 0 < cLine) :
    wpAny (model PG w) (ktrTop dp un gd "_law_draw" F455.1.2.2 L 455 (.ref 454) [] outer) (execs (F455.1.2.1.drop 6) (envOf "_law_draw" F455.1.2.2 L 455 (.ref 454))) (RetP g L s PQ) (fun _ _ => False) { s with heap := h, toks := tk0 } := by
  (k_with "GO" =>
  dsimp only [F455, List.drop]
  repeat' (k_extra "zS"; first | k_extra "zP" | k_extra "zN" | ((with_reducible show wpAny _ _ (binaryOp Operator.Mod (Value.int _ _) (Value.int _ _)) _ _ _); refine mod_any (by omega) ?_; intro z' hz1' hz2') | ((with_reducible show wpAny _ _ (binaryOp Operator.FloorDiv (Value.int _ _) (Value.int _ _)) _ _ _); refine fdiv_any (by omega) (by omega) (by omega) ?_; intro z' hz1' hz2') | ((with_reducible show wpAny _ _ (binaryOp Operator.Pow (Value.int _ _) (Value.int _ _)) _ _ _); refine pow_any (by omega) (by omega) (by first | exact mix_bound (by assumption) (by assumption) (by assumption) (by assumption) (by assumption) | omega) ?_; intro z' hz1') | k_extra "zQ")
  exact RetP.intro (by assumption) (by assumption) (hPQ _ _ (by assumption) (by assumption))
  )
  k_extra "GG"
theorem draw_ok (w : World) (p c : Addr) (o : Obj) (tk : Tok) (n2 : Nat) (vs : List Value) (ns : List Int) (many : Int) (fr : List (Addr × Obj)) (N : Int) (hI : IntsAre vs ns) (hlen : ns.length ≤ 24) (hcp : c ≠ p) (hfr : ∀ q ∈ fr, q.1 ≠ p) (hm : 0 < many) (hm2 : many ≤ 30)
    (ho : PenInv c N o) (hN : N ≤ 100000) :
    CallC w 455 1 3 [.ref p, .int many tk] ((p, o) :: (c, listOf vs.toArray n2) :: fr) (DrawPost c N many (fun o' => (p, o') :: (c, listOf vs.toArray n2) :: fr)) := by
  (k_with "GO" =>
  ((k_extra "V1"; obtain ⟨sp, t1, ac, t2, n, rfl, hsp, hsp2, hac⟩ := ho) <;> k_extra "V2")
  refine enterC (dc := 0) (uc := 0) (binds := [("pen", .ref p), ("many", .int many tk)]) (look_455 _) (code_455 _) (fun s _ => BindsTo.of_eq rfl) (locs rfl) rfl rfl rfl (by decide) ?_
  intro dp un gd outer A₀ base g mean mg mb L s B F X N' T hd hu
  dsimp only [F455]
  repeat' (k_extra "zS"; (fail_if_success (with_reducible show wpAny _ _ (execs [_, _, Stmt.Return (some (PySem.Expr.BinOp _ _ _ _)) _] _) _ _ _)); first | k_extra "zP" | ((with_reducible show wpAny _ _ (binaryOp Operator.Mod (Value.int _ _) (Value.int _ _)) _ _ _); refine mod_any (by omega) ?_; intro z' hz1' hz2') | ((with_reducible show wpAny _ _ (binaryOp Operator.FloorDiv (Value.int _ _) (Value.int _ _)) _ _ _); refine fdiv_any (by omega) (by omega) (by omega) ?_; intro z' hz1' hz2') | k_extra "zQ")
  all_goals first
    | ((show RetP _ _ _ (DrawPost c N many (fun o' => (p, o') :: (c, listOf vs.toArray n2) :: fr)) _ _); (refine RetP.intro (by assumption) (by assumption) ⟨_, _, _, rfl, ?_, ?_, rfl, ⟨_, _, _, _, _, rfl, ?_, ?_, ?_⟩⟩ <;> omega))
    | ((show wpAny _ _ (execs [_, _, Stmt.Return (some (PySem.Expr.BinOp _ _ _ _)) _] _) _ _ _); (rename (Fr _ _ _ _) => F9); (rename (News _ _ _ _) => N9); exact draw_tail (PQ := DrawPost c N many (fun o' => (p, o') :: (c, listOf vs.toArray n2) :: fr)) w hsp hsp2 hN hm (fun d t a b => ⟨d, t, _, rfl, a, b, rfl, ⟨_, _, _, _, _, rfl, by omega, by omega, by omega⟩⟩) (by k_extra "NX") (by k_extra "NX") (by k_extra "NX") B F9 X N9 T hd hu)
  )
  k_extra "GG"
def PenC (p c : Addr) (oc : Obj) : Prop := c ≠ p ∧ ∃ vs ns n2, oc = listOf vs.toArray n2 ∧ IntsAre vs ns ∧ ns.length ≤ 24
theorem draw_use {w : World} {p c : Addr} {o oc : Obj} {tk : Tok} {many N : Int} {news : List (Addr × Obj)} {g : Obj → List (Addr × Obj)}
    {dp un : Nat} {gd : Option (List Code)} {cn : Str} {cs : Scope} {a : Addr} {ccd : Value} {cl : List (Str × Addr)} {outer : List Env} {A₀ : Around} {base h₀ : Heap} {mean : ExcName → Option Value} {mg mb : Str → Option Value} {L : Addr} {m : Str → Option Value} {s : Shared} {Q E : Value → Shared → Prop}
    (B : Below A₀ base outer h₀) (F : Fr h₀ L s.heap m) (X : (K w.params).In h₀) (N' : News h₀ L s.heap news) (T : TopV mean mg mb h₀)
    (U : UpdF p o news g) (hC : PenC p c oc) (hc : (c, oc) ∈ news) (ho : PenInv c N o) (hN : N ≤ 100000) (hm : 0 < many) (hm2 : many ≤ 30) (hk : cs.kind = .function) (hd : dp + 1 < recursionLimit) (hu : un + 3 < cLine)
    (ret : ∀ d t o' h' tk', Fr h₀ L h' m → News h₀ L h' (g o') → 0 ≤ d → d < many → PenInv c (N + 1) o' → Q (.int d t) { s with heap := h', toks := tk' }) :
    wpAny (model PG w) (ktrTop dp un gd cn cs L a ccd cl outer) (call (.ref 455) [.ref p, .int many tk]) Q E s := by
  ((k_extra "V1"; obtain ⟨hcp, vs, ns, n2, rfl, hI, hlen⟩ := hC) <;> k_extra "V2")
  ((k_extra "V1"; obtain ⟨pre, post, rfl, hg, a1, a2⟩ := U.split) <;> k_extra "V2")
  have hs : ∀ q ∈ (p, o) :: (c, listOf vs.toArray n2) :: (pre ++ post), q ∈ pre ++ (p, o) :: post := by
    intro q hq
    ((k_extra "V1"; rcases List.mem_cons.mp hq with rfl | hq) <;> k_extra "V2")
    · simp
    · ((k_extra "V1"; rcases List.mem_cons.mp hq with rfl | hq) <;> k_extra "V2")
      · exact hc
      · simp only [List.mem_append, List.mem_cons] at hq ⊢
        ((k_extra "V1"; rcases hq with h | h) <;> k_extra "V2")
        · exact .inl h
        · exact .inr (.inr h)
  refine (draw_ok w p c o tk n2 vs ns many (pre ++ post) N hI hlen hcp (fun q hq => (List.mem_append.mp hq).elim (a1 q) (a2 q)) hm hm2 ho hN).use B F X N' T hs hk hd hu ?_
  intro r news' h' tk' F2 N2 z6_
  ((k_extra "V1"; obtain ⟨d, t, o', rfl, h1, h2, rfl, h3⟩ := z6_) <;> k_extra "V2")
  refine ret d t o' h' tk' F2 (fun q hq => N2 q ?_) h1 h2 h3
  rw [hg] at hq
  simp only [List.mem_append, List.mem_cons] at hq ⊢
  ((k_extra "V1"; rcases hq with h | h | h) <;> k_extra "V2")
  · exact .inr (.inr (.inl h))
  · exact .inl h
  · exact .inr (.inr (.inr h))
theorem risingS_pw : ∀ (l : List Str) (p : Str), risingS p l = true → (p :: l).Pairwise (fun a b => ¬ (b.cps.toList < a.cps.toList))
  | [], p, _ => List.pairwise_singleton _ _
  | x :: r, p, h => by
    simp only [risingS, Bool.and_eq_true, Bool.not_eq_true', ltCps_eq, decide_eq_false_iff_not] at h
    have ih := risingS_pw r x h.2
    refine List.Pairwise.cons (fun b hb => ?_) ih
    ((k_extra "V1"; rcases List.mem_cons.mp hb with rfl | hb) <;> k_extra "V2")
    · exact h.1
    · have h1 := (List.pairwise_cons.mp ih).1 b hb
      exact List.not_lt.mpr (List.le_trans (List.not_lt.mp h.1) (List.not_lt.mp h1))
theorem sortedS_pw : ∀ (l : List Str), sortedS l = true → l.Pairwise (fun a b => ¬ (b.cps.toList < a.cps.toList))
  | [], _ => .nil
  | x :: r, h => risingS_pw r x h
theorem str_ext {a b : Str} (h : a.cps.toList = b.cps.toList) : a = b := by
  cases a; cases b
  simp only [Str.mk.injEq] at h ⊢
  exact Array.toList_inj.mp h
theorem uniq_str : ∀ {a b : List Str}, a.Perm b → a.Pairwise (fun a b => ¬ (b.cps.toList < a.cps.toList)) → b.Pairwise (fun a b => ¬ (b.cps.toList < a.cps.toList)) → a = b
  | [], _, p, _, _ => p.nil_eq
  | x :: r, b, p, ha, hb => by
    k_extra "V0"
    cases b with
    | nil => k_extra "V2"; exact absurd p.length_eq (by simp)
    | cons y t =>
      k_extra "V2"
      have hx : x ∈ y :: t := p.mem_iff.mp (.head _)
      have hy : y ∈ x :: r := p.mem_iff.mpr (.head _)
      have e : x = y := by
        ((k_extra "V1"; rcases List.mem_cons.mp hx with h | h) <;> k_extra "V2")
        · exact h
        · ((k_extra "V1"; rcases List.mem_cons.mp hy with h' | h') <;> k_extra "V2")
          · exact h'.symm
          · have a1 := (List.pairwise_cons.mp ha).1 y h'
            have a2 := (List.pairwise_cons.mp hb).1 x h
            exact str_ext (List.le_antisymm (List.not_lt.mp a1) (List.not_lt.mp a2))
      subst e
      rw [uniq_str (List.Perm.cons_inv p) (List.pairwise_cons.mp ha).2 (List.pairwise_cons.mp hb).2]
def Rising (ks : List Str) : Prop := ks.Pairwise (fun a b => ¬ (b.cps.toList < a.cps.toList))
theorem strsAre_keys {prog : Program} {w : World} : ∀ {kvs : List (Str × Value)} {vs : List Value}, vs.length = kvs.length → (∀ (j : Nat) (v : Value), vs[j]? = some v → ∃ k x, kvs[j]? = some (k, x) ∧ (PySem.strKind prog w).is k v = true) → StrsAre vs (kvs.map (·.1)) := by
  intro kvs
  induction kvs with
  | nil =>
    intro vs e h
    ((k_extra "V1"; rcases vs with _ | ⟨v, vs⟩) <;> k_extra "V2")
    · exact .nil
    · exact absurd e (by simp)
  | cons q kvs ih =>
    intro vs e h
    ((k_extra "V1"; rcases vs with _ | ⟨v, vs⟩) <;> k_extra "V2")
    · exact absurd e (by simp)
    ((k_extra "V1"; obtain ⟨k', x', h1, h2⟩ := h 0 v rfl) <;> k_extra "V2")
    simp only [List.getElem?_cons_zero, Option.some.injEq] at h1
    ((k_extra "V1"; cases h1) <;> k_extra "V2")
    ((k_extra "V1"; obtain ⟨t, rfl⟩ := Value.isStrOf_shape h2) <;> k_extra "V2")
    exact .cons _ t (ih (by simpa using e) fun j v hv => h (j + 1) v hv)
section sortd
variable {prog : Program} {w : World} {A : Around} {E : Value → Shared → Prop} {s : Shared} {h₀ : Heap} {L d : Addr} {m : Str → Option Value} {news : List (Addr × Obj)} {o : Obj} {Q : Value → Shared → Prop}
theorem lsortK {κ : PyProof.Rows.KeyKind} (hO : κ.OneLt) {D : Addr} {vs : List Value} {n : Nat} (F : Fr h₀ L s.heap m) (N : News h₀ L s.heap ((D, listOf vs.toArray n) :: news)) (hoff : ∀ q ∈ news, q.1 < D)
    (h0 : KeysOf κ (pairsOf vs)) (hkk : ∀ v₁ v₂ rest, vs = v₁ :: v₂ :: rest → keyKind' (v₁ :: v₂ :: rest).toArray = pure oneType') (h64 : vs.length < 64)
    (h : ∀ (st' : SortSt) c h', (arrOf st').Perm (pairsOf vs) → SortedToK κ (arrOf st') (pairsOf vs).size → Fr h₀ L h' m → News h₀ L h' ((D, listOf ((arrOf st').map (·.2)).toList.toArray c) :: news) → Q .none { s with heap := h' }) :
    wpAny (model prog w) A (call (.builtin "list.sort") [.ref D]) Q E s := by
  have z := N (D, listOf vs.toArray n) (.head _)
  have ho : s.heap.get? D = some (seqObj "list" vs.toArray n) := z.1
  refine wpAny_call_entry PyProof.Rows.slot_list_sort ⟨_, z.1, rfl⟩ PyProof.Rows.entry_list_sort (list_sort_treeK (n := n) (vs := vs) hO ho h0 hkk h64 fun st' hp hs => ⟨.none, rfl, ?_⟩) (PyProof.Rows.args_list_sort _)
  ((k_extra "V1"; obtain ⟨c, hc⟩ := sortedHeap_at (vs := vs) (out := (arrOf st').map (·.2)) ho) <;> k_extra "V2")
  have F4 : Fr h₀ L (sortedHeap s.heap D vs ((arrOf st').map (·.2))) m :=
    ksk_fr (((ksk_fr F (Heap.SameBut.update s.heap D (Obj.mapSeq fun _ => #[])) z.2.1 z.2.2).push (seqObj "tuple" vs.toArray 0)).push (seqObj "list" #[] 0)) (Heap.SameBut.update _ D (Obj.mapSeq fun _ => (arrOf st').map (·.2))) z.2.1 z.2.2
  refine h st' c _ hp hs F4 ?_
  intro p hq
  ((k_extra "V1"; rcases List.mem_cons.mp hq with rfl | hq) <;> k_extra "V2")
  · rw [Array.toArray_toList]; exact ⟨hc, z.2⟩
  · have y := N p (.tail _ hq)
    exact ⟨(sortedHeap_old (Nat.ne_of_lt (hoff p hq)) (Heap.lt_size y.1)).trans y.1, y.2⟩
theorem sorted_strD {kvs : List (Str × Value)} (hh : A.handled = none) (F : Fr h₀ L s.heap m) (N : News h₀ L s.heap news) (hp : (d, o) ∈ news) (hd : o.IsDictOf (PySem.strKind prog w) kvs) (lo : (d == sysModules) = false) (hr : Rising (kvs.map (·.1))) (hn : kvs.length ≤ 50)
    (h : ∀ (D : Addr) c h' tk vs, Fr h₀ L h' m → News h₀ L h' ((D, listOf vs.toArray c) :: news) → AllLt D news → StrsAre vs (kvs.map (·.1)) → Q (.ref D) { s with heap := h', toks := tk }) :
    wpAny (model prog w) A (call (.builtin "sorted") [.ref d]) Q E s := by
  ((k_extra "V1"; obtain ⟨ep, hat⟩ := (kda_dict N hp hd).dictAt) <;> k_extra "V2")
  refine kdu_sorted (kdl_dict (knd := PySem.strKind prog w) (kvs := kvs) (ep := ep) lo) hh F N hat (by rw [sizeLine_eq]; omega) fun D h' tk vs F' N' l1 hl hv => ?_
  have hS := strsAre_keys hl hv
  refine lsortK (s := { s with heap := h', toks := tk }) strKind_oneLt F' N' l1 hS.keysOf (fun v₁ v₂ rest e => keyKind_strs (by rw [← e]; exact hS)) (by omega) fun st' c h2 hp hs F2 N2 => ?_
  ((k_extra "V1"; obtain ⟨ss', h1, h2, h3⟩ := sorted_out_str hS hp hs) <;> k_extra "V2")
  have e := uniq_str h2 (sortedS_pw _ h3) hr
  subst e
  exact h D c _ tk _ F2 N2 (allLt_of l1) h1
theorem intsAre_keys : ∀ {kvs : List (Int × Value)} {vs : List Value}, vs.length = kvs.length → (∀ (j : Nat) (v : Value), vs[j]? = some v → ∃ k x, kvs[j]? = some (k, x) ∧ (PySem.intKind prog w).is k v = true) → IntsAre vs (kvs.map (·.1)) := by
  intro kvs
  induction kvs with
  | nil =>
    intro vs e h
    ((k_extra "V1"; rcases vs with _ | ⟨v, vs⟩) <;> k_extra "V2")
    · exact .nil
    · exact absurd e (by simp)
  | cons q kvs ih =>
    intro vs e h
    ((k_extra "V1"; rcases vs with _ | ⟨v, vs⟩) <;> k_extra "V2")
    · exact absurd e (by simp)
    ((k_extra "V1"; obtain ⟨k', x', h1, h2⟩ := h 0 v rfl) <;> k_extra "V2")
    simp only [List.getElem?_cons_zero, Option.some.injEq] at h1
    ((k_extra "V1"; cases h1) <;> k_extra "V2")
    ((k_extra "V1"; obtain ⟨t, rfl⟩ := Value.isInt_shape h2) <;> k_extra "V2")
    exact .cons _ t (ih (by simpa using e) fun j v hv => h (j + 1) v hv)
theorem sorted_intD {kvs : List (Int × Value)} (hh : A.handled = none) (F : Fr h₀ L s.heap m) (N : News h₀ L s.heap news) (hp : (d, o) ∈ news) (hd : o.IsDictOf (PySem.intKind prog w) kvs) (lo : (d == sysModules) = false) (hn : kvs.length ≤ 50)
    (h : ∀ (D : Addr) c h' tk vs ns, Fr h₀ L h' m → News h₀ L h' ((D, listOf vs.toArray c) :: news) → AllLt D news → IntsAre vs ns → ns.Perm (kvs.map (·.1)) → ns.Pairwise (· ≤ ·) → Q (.ref D) { s with heap := h', toks := tk }) :
    wpAny (model prog w) A (call (.builtin "sorted") [.ref d]) Q E s := by
  ((k_extra "V1"; obtain ⟨ep, hat⟩ := (kda_dict N hp hd).dictAt) <;> k_extra "V2")
  refine kdu_sorted (kdl_dict (knd := PySem.intKind prog w) (kvs := kvs) (ep := ep) lo) hh F N hat (by rw [sizeLine_eq]; omega) fun D h' tk vs F' N' l1 hl hv => ?_
  have hI := intsAre_keys hl hv
  refine ksk_lsort (s := { s with heap := h', toks := tk }) (its := vs.toArray) (n := 0) (vs := vs) (ns := kvs.map (·.1)) (news := (D, listOf vs.toArray 0) :: news) (news' := fun o => (D, o) :: news) F' N' (fun o => .head (fun q hq => Nat.ne_of_lt (l1 q hq))) (by simp) hI (by simp; omega) ?_
  intro vs' ns' c h2 F2 N2 hI' hlen hperm hpw _
  exact h D c _ tk _ ns' F2 N2 (allLt_of l1) hI' hperm hpw
end sortd
section
abbrev ent (w : World) (k : Str) (t : Tok) (v : Value) : DictEntry := ⟨PyData.keyHash w.params k, .str k t, v⟩
local macro_rules | `(tactic| k_enter) => `(tactic| (refine' code_def ?k1 ?k2 ?k3 ?k4 ?k5 ?kA ?kF ?kK ?k6 ?k7 ?k8 ?k9 ?kB ?_ ?c2 ?c3 ?c4 ?c5; (case kA => exact rfl); (case kF => exact rfl); (case kK => assumption); (case k1 => k_asm); (case k2 => k_asm); (case k3 => k_asm); (case k4 => k_asm); (case k5 => k_asm); (case k6 => k_is); (case k7 => k_is); (case k8 => ktr_room); (case k9 => first | exact BindsTo.of_eq rfl | exact binds_K (by k_in) rfl (by k_is) rfl rfl rfl); (case c5 => decide); (case kB => exact locs rfl); (case c2 => exact rfl); (case c3 => exact rfl); (case c4 => exact rfl); k_whole; intro g' L' h' FG' F' N' B' X' T'; (try dsimp only); (try k_fold)))
theorem new_ref {w : World} {n g : Int} {u v : Tok} {dp un : Nat} {gd : Option (List Code)} {cn : Str} {cs : Scope} {a : Addr} {ccd : Value} {cl : List (Str × Addr)} {outer : List Env} {A₀ : Around} {base h₀ : Heap} {mean : ExcName → Option Value} {mg mb : Str → Option Value} {L : Addr} {m : Str → Option Value} {s : Shared} {Q E : Value → Shared → Prop} {news : List (Addr × Obj)}
    (B : Below A₀ base outer h₀) (F : Fr h₀ L s.heap m) (X : (K w.params).In h₀) (N : News h₀ L s.heap news) (T : TopV mean mg mb h₀) (hk : cs.kind = .function) (hd : dp + 3 < recursionLimit) (hu : un + 30 < cLine)
    (ret : ∀ x' dx tk0 tk1 n' h' tk', Fr h₀ L h' m → News h₀ L h' ((x', instObj 249 dx) :: (dx, dictOf [ent w "number" tk0 (.int n u), ent w "generation" tk1 (.int g v)] n') :: news) → AllLt dx news → @LT.lt Nat _ dx x' → Q (.ref x') { s with heap := h', toks := tk' }) :
    wpAny (model PG w) (ktrTop dp un gd cn cs L a ccd cl outer) (call (.ref 249) [.int n u, .int g v]) Q E s := by
  k_steps
  all_goals first | (with_reducible exact ret _ _ _ _ _ _ _ (by assumption) (by assumption) (by assumption) (by assumption)) | skip
theorem new_name {w : World} {x : Str} {u : Tok} {dp un : Nat} {gd : Option (List Code)} {cn : Str} {cs : Scope} {a : Addr} {ccd : Value} {cl : List (Str × Addr)} {outer : List Env} {A₀ : Around} {base h₀ : Heap} {mean : ExcName → Option Value} {mg mb : Str → Option Value} {L : Addr} {m : Str → Option Value} {s : Shared} {Q E : Value → Shared → Prop} {news : List (Addr × Obj)}
    (B : Below A₀ base outer h₀) (F : Fr h₀ L s.heap m) (X : (K w.params).In h₀) (N : News h₀ L s.heap news) (T : TopV mean mg mb h₀) (hk : cs.kind = .function) (hd : dp + 3 < recursionLimit) (hu : un + 30 < cLine)
    (ret : ∀ x' dx tk0 n' h' tk', Fr h₀ L h' m → News h₀ L h' ((x', instObj 178 dx) :: (dx, dictOf [ent w "text" tk0 (.str x u)] n') :: news) → AllLt dx news → @LT.lt Nat _ dx x' → Q (.ref x') { s with heap := h', toks := tk' }) :
    wpAny (model PG w) (ktrTop dp un gd cn cs L a ccd cl outer) (call (.ref 178) [.str x u]) Q E s := by
  k_steps
  all_goals first | (with_reducible exact ret _ _ _ _ _ _ (by assumption) (by assumption) (by assumption) (by assumption)) | skip
theorem new_string {w : World} {b : Array UInt8} {u : Tok} {dp un : Nat} {gd : Option (List Code)} {cn : Str} {cs : Scope} {a : Addr} {ccd : Value} {cl : List (Str × Addr)} {outer : List Env} {A₀ : Around} {base h₀ : Heap} {mean : ExcName → Option Value} {mg mb : Str → Option Value} {L : Addr} {m : Str → Option Value} {s : Shared} {Q E : Value → Shared → Prop} {news : List (Addr × Obj)}
    (B : Below A₀ base outer h₀) (F : Fr h₀ L s.heap m) (X : (K w.params).In h₀) (N : News h₀ L s.heap news) (T : TopV mean mg mb h₀) (hk : cs.kind = .function) (hd : dp + 3 < recursionLimit) (hu : un + 30 < cLine)
    (ret : ∀ x' dx tk0 tk1 n' h' tk', Fr h₀ L h' m → News h₀ L h' ((x', instObj 200 dx) :: (dx, dictOf [ent w "octets" tk0 (.bytes b u), ent w "is_hex" tk1 (.bool false)] n') :: news) → AllLt dx news → @LT.lt Nat _ dx x' → Q (.ref x') { s with heap := h', toks := tk' }) :
    wpAny (model PG w) (ktrTop dp un gd cn cs L a ccd cl outer) (call (.ref 200) [.bytes b u]) Q E s := by
  k_steps
  all_goals first | (with_reducible exact ret _ _ _ _ _ _ _ (by assumption) (by assumption) (by assumption) (by assumption)) | skip
theorem new_stream {w : World} {b : Array UInt8} {u : Tok} {hd0 : Addr} {dp un : Nat} {gd : Option (List Code)} {cn : Str} {cs : Scope} {a : Addr} {ccd : Value} {cl : List (Str × Addr)} {outer : List Env} {A₀ : Around} {base h₀ : Heap} {mean : ExcName → Option Value} {mg mb : Str → Option Value} {L : Addr} {m : Str → Option Value} {s : Shared} {Q E : Value → Shared → Prop} {news : List (Addr × Obj)}
    (B : Below A₀ base outer h₀) (F : Fr h₀ L s.heap m) (X : (K w.params).In h₀) (N : News h₀ L s.heap news) (T : TopV mean mg mb h₀) (hk : cs.kind = .function) (hd : dp + 3 < recursionLimit) (hu : un + 30 < cLine)
    (ret : ∀ x' dx tk0 tk1 n' h' tk', Fr h₀ L h' m → News h₀ L h' ((x', instObj 221 dx) :: (dx, dictOf [ent w "head" tk0 (.ref hd0), ent w "octets" tk1 (.bytes b u)] n') :: news) → AllLt dx news → @LT.lt Nat _ dx x' → Q (.ref x') { s with heap := h', toks := tk' }) :
    wpAny (model PG w) (ktrTop dp un gd cn cs L a ccd cl outer) (call (.ref 221) [.ref hd0, .bytes b u]) Q E s := by
  k_steps
  all_goals first | (with_reducible exact ret _ _ _ _ _ _ _ (by assumption) (by assumption) (by assumption) (by assumption)) | skip
theorem new_finding {w : World} {x y : Str} {n : Int} {u v t : Tok} {dp un : Nat} {gd : Option (List Code)} {cn : Str} {cs : Scope} {a : Addr} {ccd : Value} {cl : List (Str × Addr)} {outer : List Env} {A₀ : Around} {base h₀ : Heap} {mean : ExcName → Option Value} {mg mb : Str → Option Value} {L : Addr} {m : Str → Option Value} {s : Shared} {Q E : Value → Shared → Prop} {news : List (Addr × Obj)}
    (B : Below A₀ base outer h₀) (F : Fr h₀ L s.heap m) (X : (K w.params).In h₀) (N : News h₀ L s.heap news) (T : TopV mean mg mb h₀) (hk : cs.kind = .function) (hd : dp + 3 < recursionLimit) (hu : un + 30 < cLine)
    (ret : ∀ x' dx tk0 tk1 tk2 n' h' tk', Fr h₀ L h' m → News h₀ L h' ((x', instObj 397 dx) :: (dx, dictOf [ent w "word" tk0 (.str x u), ent w "place" tk1 (.int n t), ent w "text" tk2 (.str y v)] n') :: news) → AllLt dx news → @LT.lt Nat _ dx x' → Q (.ref x') { s with heap := h', toks := tk' }) :
    wpAny (model PG w) (ktrTop dp un gd cn cs L a ccd cl outer) (call (.ref 397) [.str x u, .int n t, .str y v]) Q E s := by
  k_steps
  all_goals first | (with_reducible exact ret _ _ _ _ _ _ _ _ (by assumption) (by assumption) (by assumption) (by assumption)) | skip
theorem new_shelf {w : World} {t0 r0 : Addr} {dp un : Nat} {gd : Option (List Code)} {cn : Str} {cs : Scope} {a : Addr} {ccd : Value} {cl : List (Str × Addr)} {outer : List Env} {A₀ : Around} {base h₀ : Heap} {mean : ExcName → Option Value} {mg mb : Str → Option Value} {L : Addr} {m : Str → Option Value} {s : Shared} {Q E : Value → Shared → Prop} {news : List (Addr × Obj)}
    (B : Below A₀ base outer h₀) (F : Fr h₀ L s.heap m) (X : (K w.params).In h₀) (N : News h₀ L s.heap news) (T : TopV mean mg mb h₀) (hk : cs.kind = .function) (hd : dp + 3 < recursionLimit) (hu : un + 30 < cLine)
    (ret : ∀ x' dx tk0 tk1 n' h' tk', Fr h₀ L h' m → News h₀ L h' ((x', instObj 370 dx) :: (dx, dictOf [ent w "table" tk0 (.ref t0), ent w "trailer" tk1 (.ref r0)] n') :: news) → AllLt dx news → @LT.lt Nat _ dx x' → Q (.ref x') { s with heap := h', toks := tk' }) :
    wpAny (model PG w) (ktrTop dp un gd cn cs L a ccd cl outer) (call (.ref 370) [.ref t0, .ref r0]) Q E s := by
  k_steps
  all_goals first | (with_reducible exact ret _ _ _ _ _ _ _ (by assumption) (by assumption) (by assumption) (by assumption)) | skip
end
theorem lk_list_keys : typeLookup (.type "list") "keys" = pure none := by rw [typeLookup_type, builtinLookup_eq_fast]; kernel_rfl
theorem plain_dul : plainId "dict.update.loop" = true := by decide +kernel
theorem entry_dul : entryFor table "dict.update.loop" = some Builtin.«dict.update.loop» := entryFor_of_tree (by kernel_rfl)
section
variable {prog : Program} {w : World} {A : Around} {E : Value → Shared → Prop} {s : Shared}
theorem getAttrQ_list {a : Addr} {xs : Array Value} {k : Nat} {Q : Option Value → Shared → Prop} (hx : s.heap.get? a = some (listOf xs k)) (hA : A.handled = none)
    (h : ∀ h' tk, (∀ b o, s.heap.get? b = some o → h'.get? b = some o) → Q none { s with heap := h', toks := tk }) :
    wpAny (model prog w) A (getAttr? (.ref a) "keys") Q E s := by
  ((k_extra "V1"; obtain ⟨hp, g, d, tk, os⟩ := s) <;> k_extra "V2")
  have hT : ∀ tk', (⟨hp, g, d, tk', os⟩ : Shared).TypeIs (.ref a) "list" := fun _ => ⟨_, hx, rfl⟩
  have f1 := sub_AttributeError
  have f3 := PySem.F.slot_list_getattribute.lookup
  have f4 := PySem.F.slot_list_getattribute.bind (.ref a)
  have f5 := am_list_getattr_none
  unfold getAttr? getAttrBy? getAttrBy
  repeat (any_goals (first | assumption | exact hT _ | ((with_reducible show wpAny _ _ (call (Value.builtin "list.__getattribute__") _ _) _ _ _); refine call_meets PySem.F.slot_list_getattribute (hT _) am_entry_list_getattribute (PySem.F.args_list_getattribute_2 _ _) (meets_getattribute_miss_list a xs k #[] "keys" _ lk_list_keys (by decide)) ⟨hx, hA, fun h' tk' e hx' => ?_⟩) | wp_step))
  ((k_extra "V1"; obtain ⟨t', u', he⟩ := hx'.there) <;> k_extra "V2")
  have fE : ({ heap := h', gens := g, drawn := d, toks := tk', os := os } : Shared).TypeIs (.ref e) "AttributeError" := ⟨_, he, rfl⟩
  show wpAny _ _ (getattributeRaised _ _ _ _ _ _ _) _ _ _
  unfold getattributeRaised
  repeat (any_goals (first | assumption | wp_step))
  exact h _ _ hx'.keeps
theorem dul_loop {l it d : Addr} {vs : List Value} {n : Nat} {kvs : List (Str × Value)} {h₀' : Heap} {R : Result → Shared → Prop} (hh : A.handled = none) (hdl : d ≠ l) (hdi : d ≠ it) (hil : it ≠ l)
    (hlen : vs.length = kvs.length) (hsz : kvs.length ≤ 1000) (hnd : (kvs.map (·.1)).Nodup)
    (hv : ∀ (i : Nat) kv, kvs[i]? = some kv → ∃ t u n', vs[i]? = some (.ref t) ∧ t ≠ d ∧ t ≠ it ∧ h₀'.get? t = some { cls := .type "tuple", data := .seq #[.str kv.1 u, kv.2] n' })
    (hl : h₀'.get? l = some (listOf vs.toArray n))
    (hR : ∀ h' tk, h'.DictOf (PySem.strKind prog w) d (merged [] kvs) → (∀ b o, b ≠ d → b ≠ it → h₀'.get? b = some o → h'.get? b = some o) → R (.ok (.ret .none)) { s with heap := h', toks := tk }) :
    ∀ (m i : Nat) (h : Heap) (tk ti : Tok), i + m = kvs.length → h.IsListIter it l i → h.DictOf (PySem.strKind prog w) d (merged [] (kvs.take i)) → (∀ b o, b ≠ d → b ≠ it → h₀'.get? b = some o → h.get? b = some o) →
      codeAny (model prog w) A (.builtin "dict.update.loop" ⟨[.ref d, .ref it, .int i ti, .none], []⟩) R { s with heap := h, toks := tk } := by
  intro m
  induction m with
  | zero =>
    intro i h tk ti hi hit hd hk
    have hil' : i = kvs.length := by omega
    have hls : h.IsList l vs.toArray := ⟨_, hk l _ (Ne.symm hdl) (Ne.symm hil) hl, rfl, n, rfl⟩
    refine codeAny_builtin entry_dul ?_
    rw [Around.under_plainId plain_dul]
    unfold Builtin.«dict.update.loop»
    dsimp only
    refine wpAny_bind (wpAny_pyNext_list_end (s := { s with heap := h, toks := tk }) hh hit hls (by simp; omega) fun h' hx => ?_)
    dsimp only
    refine wpAny_bind (wpAny_pure (wpAny_pure ?_))
    have e : kvs.take i = kvs := by rw [hil', List.take_length]
    rw [e] at hd
    exact hR h' tk (hd.extBut hx hdi) fun b o h1 h2 e => hx b o h2 (hk b o h1 h2 e)
  | succ m ih =>
    intro i h tk ti hi hit hd hk
    have hlt : i < kvs.length := by omega
    ((k_extra "V1"; obtain ⟨t, u, n', hvi, htd, hti, hto⟩ := hv i kvs[i] (List.getElem?_eq_getElem hlt)) <;> k_extra "V2")
    have hls : h.IsList l vs.toArray := ⟨_, hk l _ (Ne.symm hdl) (Ne.symm hil) hl, rfl, n, rfl⟩
    refine codeAny_builtin entry_dul ?_
    rw [Around.under_plainId plain_dul]
    unfold Builtin.«dict.update.loop»
    dsimp only
    refine wpAny_bind (wpAny_pyNext_list_item (s := { s with heap := h, toks := tk }) hit hls (x := .ref t) (by simpa using hvi) fun h₁ hit₁ hs₁ => ?_)
    have hto₁ : h₁.get? t = some { cls := .type "tuple", data := .seq #[.str kvs[i].1 u, kvs[i].2] n' } := (hs₁.2 t hti).trans (hk t _ htd hti hto)
    refine wpAny_bind (wpAny_holding (wpAny_bind (wpAny_tryCatch ?_)))
    unfold Builtin.Dict.pairItems
    refine wpAny_bind (wpAny_typeOf (T := "tuple") ⟨_, hto₁, rfl⟩ ?_)
    rw [if_pos (by decide)]
    refine wpAny_bind (wpAny_seqItems hto₁ rfl (wpAny_pure ?_))
    dsimp only
    refine wpAny_holding (wpAny_dictSet_pairs (knd := PySem.strKind prog w) (strKind_is _ _ _ _) (hd.sameBut hs₁ hdi) (fun h₂ hd₂ hs₂ => ?_) ?_)
    · refine wpAny_pure ⟨plainId_quiet plain_dul _, ?_⟩
      have ht : merged [] (kvs.take (i + 1)) = stored (merged [] (kvs.take i)) kvs[i].1 kvs[i].2 := merged_take_succ [] kvs i kvs[i] (List.getElem?_eq_getElem hlt)
      have hit₂ : h₂.IsListIter it l (i + 1) := by
        ((k_extra "V1"; obtain ⟨o, ho, r⟩ := hit₁) <;> k_extra "V2")
        exact ⟨o, (hs₂.2 it (Ne.symm hdi)).trans ho, r⟩
      have := ih (i + 1) h₂ (tk + 1) 0 (by omega) hit₂ (by rw [ht]; exact hd₂) fun b o h1 h2 e => (hs₂.2 b h1).trans ((hs₁.2 b h2).trans (hk b o h1 h2 e))
      exact this
    · rw [sizeLine_eq, merged_nil_of_nodup _ (hnd.sublist ((List.take_sublist i kvs).map _)), List.length_take]
      omega
theorem dict_pairs {l : Addr} {vs : List Value} {n : Nat} {kvs : List (Str × Value)} {news : List (Addr × Obj)} {h₀ : Heap} {L : Addr} {m : Str → Option Value} {Q : Value → Shared → Prop} (hh : A.handled = none) (F : Fr h₀ L s.heap m) (N : News h₀ L s.heap news) (hbig : h₀.NoLimit)
    (hl : (l, listOf vs.toArray n) ∈ news) (hlen : vs.length = kvs.length) (hsz : kvs.length ≤ 1000) (hnd : (kvs.map (·.1)).Nodup)
    (hv : ∀ (i : Nat) kv, kvs[i]? = some kv → ∃ t u n', vs[i]? = some (.ref t) ∧ (t, ({ cls := .type "tuple", data := .seq #[.str kv.1 u, kv.2] n' } : Obj)) ∈ news)
    (k : ∀ d h' o tk', Fr h₀ L h' m → News h₀ L h' ((d, o) :: news) → AllLt d news → (d == sysModules) = false → o.IsDictOf (PySem.strKind prog w) kvs → Q (.ref d) { s with heap := h', toks := tk' }) :
    wpAny (model prog w) A (call (.type "dict") [.ref l]) Q E s := by
  refine callType_codes (Q₁ := fun obj s₁ => obj = .ref s.heap.objs.size ∧ s₁ = { s with heap := s.heap.push { cls := .type "dict", data := .dict #[] } }) PySem.F.kt_called_dict (PySem.F.kt_typeCall_dict_1 _) PySem.F.entry_dict_init (kt_code_dict_new _ ⟨rfl, rfl⟩) ?_
  intro obj s₁ z2_
  ((k_extra "V1"; obtain ⟨rfl, rfl⟩ := z2_) <;> k_extra "V2")
  have hnew : (s.heap.push { cls := .type "dict", data := .dict #[] }).DictOf (PySem.strKind prog w) s.heap.objs.size [] := Heap.DictOf.new s.heap
  have hlg : s.heap.get? l = some (listOf vs.toArray n) := (N _ hl).1
  have hl' : (s.heap.push { cls := .type "dict", data := .dict #[] }).get? l = some (listOf vs.toArray n) := Heap.get?_push_of_some _ hlg
  have hdl : s.heap.objs.size ≠ l := fun e => absurd (Heap.lt_size hlg) (by rw [← e]; exact Nat.lt_irrefl _)
  refine ⟨hnew.typeIs, PySem.F.args_dict_init_2 _ _, ?_⟩
  unfold Builtin.«dict.__init__»
  refine wpAny_bind ?_
  unfold Builtin.Dict.selfAndRest
  refine wpAny_bind (wpAny_notOrdered_dict hnew.typeIs ?_)
  show wpAny _ _ (pure (s.heap.objs.size, [Value.ref l])) _ _ _
  refine wpAny_pure ?_
  show wpAny _ _ (Builtin.Dict.updateFrom "dict.__init__" s.heap.objs.size (.ref l) [] .none) _ _ _
  unfold Builtin.Dict.updateFrom
  refine wpAny_bind (wpAny_typeOf (T := "list") ⟨_, hl', rfl⟩ ?_)
  rw [if_pos (by decide)]
  refine wpAny_bind (getAttrQ_list hl' (by exact hh) fun h₁ tk₁ hk₁ => ?_)
  rw [if_pos (by rfl)]
  refine wpAny_bind (wpAny_rule ?_)
  have hl₁ := hk₁ _ _ hl'
  refine wpAny_bind (wpAny_pyIter_list ⟨_, hl₁, rfl, n, rfl⟩ ?_)
  refine wpAny_pure ⟨plainId_quiet plain_dul _, ?_⟩
  have hnew₁ : h₁.DictOf (PySem.strKind prog w) s.heap.objs.size [] := by
    ((k_extra "V1"; obtain ⟨o, es, ep, ho, r⟩ := hnew) <;> k_extra "V2")
    exact ⟨o, es, ep, hk₁ _ _ ho, r⟩
  have hds : s.heap.objs.size < h₁.objs.size := by obtain ⟨o, es, ep, ho, r⟩ := hnew₁; exact Heap.lt_size ho
  have hls : l < h₁.objs.size := Heap.lt_size hl₁
  have keep₁ : ∀ b o, s.heap.get? b = some o → h₁.get? b = some o := fun b o e => hk₁ b o (Heap.get?_push_of_some _ e)
  have key := dul_loop (s := s) (A := A.in1) (h₀' := s.heap) (l := l) (it := h₁.objs.size) (d := s.heap.objs.size) (kvs := kvs) (vs := vs) (n := n) (R := wants (fun r s₂ => r = Value.none ∧ Q (Value.ref s.heap.objs.size) s₂) E) hh hdl (Nat.ne_of_lt hds) (Nat.ne_of_gt hls) hlen hsz hnd
    (fun i kv e => by
      ((k_extra "V1"; obtain ⟨t, u, n', h1, h2⟩ := hv i kv e) <;> k_extra "V2")
      have hg := (N _ h2).1
      exact ⟨t, u, n', h1, Nat.ne_of_lt (Heap.lt_size hg), Nat.ne_of_lt (Heap.lt_size (keep₁ _ _ hg)), hg⟩)
    hlg (fun h' tk hd hk => by
      rw [merged_nil_of_nodup _ hnd] at hd
      refine ⟨rfl, ?_⟩
      ((k_extra "V1"; obtain ⟨o', ho', hd'⟩ := Heap.dictOf_iff.mp hd) <;> k_extra "V2")
      have kp : ∀ b o, s.heap.get? b = some o → h'.get? b = some o := fun b o e => hk b o (Nat.ne_of_lt (Heap.lt_size e)) (Nat.ne_of_lt (Heap.lt_size (keep₁ b o e))) e
      refine k _ h' o' tk (F.keeps kp) (fun p hp => ?_) (allLt_of fun p hp => Heap.lt_size (N p hp).1) (F.notModules (modules_low hbig)) hd'
      ((k_extra "V1"; rcases List.mem_cons.mp hp with rfl | hp) <;> k_extra "V2")
      · exact ⟨ho', Nat.ne_of_gt F.ns.lt, next_is_new F⟩
      · exact ⟨kp _ _ (N p hp).1, (N p hp).2⟩)
    kvs.length 0 (h₁.push { cls := .type "list_iterator", data := .fields #[.ref l, .int 0 0] }) tk₁ 0 (by omega) ⟨_, Heap.get?_push_size _ rfl, rfl, rfl⟩ (by simpa [merged] using hnew₁.push _) (fun b o h1 h2 e => Heap.get?_push_of_some _ (keep₁ b o e))
  exact key
end
inductive TupsAre (news : List (Addr × Obj)) : List Value → List (Str × Value) → Prop
  | nil : TupsAre news [] []
  | cons {t : Addr} {k : Str} {u : Tok} {v : Value} {n' : Nat} {vs : List Value} {kvs : List (Str × Value)} : (t, ({ cls := .type "tuple", data := .seq #[.str k u, v] n' } : Obj)) ∈ news → TupsAre news vs kvs → TupsAre news (.ref t :: vs) ((k, v) :: kvs)
theorem TupsAre.length {news : List (Addr × Obj)} {vs : List Value} {kvs : List (Str × Value)} (h : TupsAre news vs kvs) : vs.length = kvs.length := by
  induction h with
  | nil => rfl
  | cons _ _ ih => simp [ih]
theorem TupsAre.at {news : List (Addr × Obj)} {vs : List Value} {kvs : List (Str × Value)} (h : TupsAre news vs kvs) : ∀ (i : Nat) kv, kvs[i]? = some kv → ∃ t u n', vs[i]? = some (.ref t) ∧ (t, ({ cls := .type "tuple", data := .seq #[.str kv.1 u, kv.2] n' } : Obj)) ∈ news := by
  induction h with
  | nil => intro i kv e; simp at e
  | cons hm _ ih =>
    intro i kv e
    cases i with
    | zero => simp only [List.getElem?_cons_zero, Option.some.injEq] at e; subst e; exact ⟨_, _, _, rfl, hm⟩
    | succ i => exact ih i kv (by simpa using e)
theorem dict_tups {prog : Program} {w : World} {A : Around} {E : Value → Shared → Prop} {s : Shared} {l : Addr} {vs : List Value} {n : Nat} {kvs : List (Str × Value)} {news : List (Addr × Obj)} {h₀ : Heap} {L : Addr} {m : Str → Option Value} {Q : Value → Shared → Prop} (hh : A.handled = none) (F : Fr h₀ L s.heap m) (N : News h₀ L s.heap news) (hbig : h₀.NoLimit)
    (hl : (l, listOf vs.toArray n) ∈ news) (ht : TupsAre news vs kvs) (hsz : kvs.length ≤ 1000) (hnd : (kvs.map (·.1)).Nodup)
    (k : ∀ d h' o tk', Fr h₀ L h' m → News h₀ L h' ((d, o) :: news) → AllLt d news → (d == sysModules) = false → o.IsDictOf (PySem.strKind prog w) kvs → Q (.ref d) { s with heap := h', toks := tk' }) :
    wpAny (model prog w) A (call (.type "dict") [.ref l]) Q E s := dict_pairs hh F N hbig hl ht.length hsz hnd ht.at k
inductive PV where
  | none | bool (b : Bool) | int (i : Int) | name (s : Str) | string (b : Array UInt8) | dec (t p : Int) | ref (n g : Int) | arr (l : List PV) | dict (l : List (Str × PV)) | stream (l : List (Str × PV)) (b : Array UInt8)
mutual
inductive VIn (w : World) (news : List (Addr × Obj)) : Value → PV → Prop
  | none : VIn w news .none .none
  | bool (b : Bool) : VIn w news (.bool b) (.bool b)
  | int (i : Int) (t : Tok) : VIn w news (.int i t) (.int i)
  | name {a d : Addr} {s : Str} {t u : Tok} {n : Nat} : (a, instObj 178 d) ∈ news → (d, dictOf [ent w "text" t (.str s u)] n) ∈ news → VIn w news (.ref a) (.name s)
  | string {a d : Addr} {b : Array UInt8} {t u t' : Tok} {n : Nat} : (a, instObj 200 d) ∈ news → (d, dictOf [ent w "octets" t (.bytes b u), ent w "is_hex" t' (.bool false)] n) ∈ news → VIn w news (.ref a) (.string b)
  | dec {a d : Addr} {x y : Int} {t u t' u' : Tok} {n : Nat} : (a, instObj 150 d) ∈ news → (d, dictOf [ent w "top" t (.int x u), ent w "places" t' (.int y u')] n) ∈ news → VIn w news (.ref a) (.dec x y)
  | ref {a d : Addr} {x y : Int} {t u t' u' : Tok} {n : Nat} : (a, instObj 249 d) ∈ news → (d, dictOf [ent w "number" t (.int x u), ent w "generation" t' (.int y u')] n) ∈ news → VIn w news (.ref a) (.ref x y)
  | arr {a : Addr} {vs : List Value} {n : Nat} {ds : List PV} : (a, listOf vs.toArray n) ∈ news → VAll w news vs ds → VIn w news (.ref a) (.arr ds)
  | dict {a : Addr} {o : Obj} {kvs : List (Str × Value)} {es : List (Str × PV)} : (a, o) ∈ news → o.IsDictOf (PySem.strKind PG w) kvs → (a == sysModules) = false → VEs w news kvs es → VIn w news (.ref a) (.dict es)
  | stream {a d h : Addr} {b : Array UInt8} {t t' u : Tok} {n : Nat} {o : Obj} {kvs : List (Str × Value)} {es : List (Str × PV)} : (a, instObj 221 d) ∈ news → (d, dictOf [ent w "head" t (.ref h), ent w "octets" t' (.bytes b u)] n) ∈ news →
      (h, o) ∈ news → o.IsDictOf (PySem.strKind PG w) kvs → (h == sysModules) = false → VEs w news kvs es → VIn w news (.ref a) (.stream es b)
inductive VAll (w : World) (news : List (Addr × Obj)) : List Value → List PV → Prop
  | nil : VAll w news [] []
  | cons {v : Value} {vs : List Value} {d : PV} {ds : List PV} : VIn w news v d → VAll w news vs ds → VAll w news (v :: vs) (d :: ds)
inductive VEs (w : World) (news : List (Addr × Obj)) : List (Str × Value) → List (Str × PV) → Prop
  | nil : VEs w news [] []
  | cons {k : Str} {v : Value} {vs : List (Str × Value)} {d : PV} {ds : List (Str × PV)} : VIn w news v d → VEs w news vs ds → VEs w news ((k, v) :: vs) ((k, d) :: ds)
end
def VInv (w : World) (n : List (Addr × Obj)) (v : Value) (G : Prop) : PV → Prop
  | .ref x y => (∀ a d t u t' u' c, v = .ref a → (a, instObj 249 d) ∈ n → (d, dictOf [ent w "number" t (.int x u), ent w "generation" t' (.int y u')] c) ∈ n → G) → G
  | .name x => (∀ a d t u c, v = .ref a → (a, instObj 178 d) ∈ n → (d, dictOf [ent w "text" t (.str x u)] c) ∈ n → G) → G
  | .arr l => (∀ a vs c, v = .ref a → (a, listOf (List.toArray vs) c) ∈ n → VAll w n vs l → G) → G
  | .dict es => (∀ a o kvs, v = .ref a → (a, o) ∈ n → o.IsDictOf (PySem.strKind PG w) kvs → (a == sysModules) = false → VEs w n kvs es → G) → G
  | .stream es b => (∀ a d x t t' u c o kvs, v = .ref a → (a, instObj 221 d) ∈ n → (d, dictOf [ent w "head" t (.ref x), ent w "octets" t' (.bytes b u)] c) ∈ n → (x, o) ∈ n → o.IsDictOf (PySem.strKind PG w) kvs → (x == sysModules) = false → VEs w n kvs es → G) → G
  | _ => True
theorem vin_inv {G : Prop} {w : World} {n : List (Addr × Obj)} {v : Value} {d : PV} (h : VIn w n v d) : VInv w n v G d := by
  k_extra "V0"
  cases h with
  | ref h1 h2 => k_extra "V2"; exact fun k => k _ _ _ _ _ _ _ rfl h1 h2
  | name h1 h2 => k_extra "V2"; exact fun k => k _ _ _ _ _ rfl h1 h2
  | arr h1 h2 => k_extra "V2"; exact fun k => k _ _ _ rfl h1 h2
  | dict h1 h2 h3 h4 => k_extra "V2"; exact fun k => k _ _ _ rfl h1 h2 h3 h4
  | stream h1 h2 h3 h4 h5 h6 => k_extra "V2"; exact fun k => k _ _ _ _ _ _ _ _ _ rfl h1 h2 h3 h4 h5 h6
  | _ => k_extra "V2"; exact trivial
theorem vE_ref {G : Prop} {w : World} {n : List (Addr × Obj)} {v : Value} {x y : Int} (h : VIn w n v (.ref x y)) (k : ∀ a d t u t' u' c, v = .ref a → (a, instObj 249 d) ∈ n → (d, dictOf [ent w "number" t (.int x u), ent w "generation" t' (.int y u')] c) ∈ n → G) : G := (vin_inv h : VInv w n v G (.ref x y)) k
theorem vE_name {G : Prop} {w : World} {n : List (Addr × Obj)} {v : Value} {x : Str} (h : VIn w n v (.name x)) (k : ∀ a d t u c, v = .ref a → (a, instObj 178 d) ∈ n → (d, dictOf [ent w "text" t (.str x u)] c) ∈ n → G) : G := (vin_inv h : VInv w n v G (.name x)) k
theorem vE_arr {G : Prop} {w : World} {n : List (Addr × Obj)} {v : Value} {l : List PV} (h : VIn w n v (.arr l)) (k : ∀ a vs c, v = .ref a → (a, listOf (List.toArray vs) c) ∈ n → VAll w n vs l → G) : G := (vin_inv h : VInv w n v G (.arr l)) k
theorem vE_dict {G : Prop} {w : World} {n : List (Addr × Obj)} {v : Value} {es : List (Str × PV)} (h : VIn w n v (.dict es)) (k : ∀ a o kvs, v = .ref a → (a, o) ∈ n → o.IsDictOf (PySem.strKind PG w) kvs → (a == sysModules) = false → VEs w n kvs es → G) : G := (vin_inv h : VInv w n v G (.dict es)) k
theorem vE_stream {G : Prop} {w : World} {n : List (Addr × Obj)} {v : Value} {es : List (Str × PV)} {b : Array UInt8} (h : VIn w n v (.stream es b)) (k : ∀ a d x t t' u c o kvs, v = .ref a → (a, instObj 221 d) ∈ n → (d, dictOf [ent w "head" t (.ref x), ent w "octets" t' (.bytes b u)] c) ∈ n → (x, o) ∈ n → o.IsDictOf (PySem.strKind PG w) kvs → (x == sysModules) = false → VEs w n kvs es → G) : G := (vin_inv h : VInv w n v G (.stream es b)) k
theorem VIn.mono {w : World} {news news' : List (Addr × Obj)} (hs : ∀ p ∈ news, p ∈ news') {v : Value} {d : PV} (h : VIn w news v d) : VIn w news' v d :=
  VIn.rec (motive_1 := fun v d _ => VIn w news' v d) (motive_2 := fun vs ds _ => VAll w news' vs ds) (motive_3 := fun vs ds _ => VEs w news' vs ds)
    .none .bool .int (fun h1 h2 => .name (hs _ h1) (hs _ h2)) (fun h1 h2 => .string (hs _ h1) (hs _ h2)) (fun h1 h2 => .dec (hs _ h1) (hs _ h2)) (fun h1 h2 => .ref (hs _ h1) (hs _ h2)) (fun h1 _ r => .arr (hs _ h1) r) (fun h1 h2 h3 _ r => .dict (hs _ h1) h2 h3 r) (fun h1 h2 h3 h4 h5 _ r => .stream (hs _ h1) (hs _ h2) (hs _ h3) h4 h5 r) .nil (fun _ _ a b => .cons a b) .nil (fun _ _ a b => .cons a b) h
theorem VAll.mono {w : World} {news news' : List (Addr × Obj)} (hs : ∀ p ∈ news, p ∈ news') {vs : List Value} {ds : List PV} (h : VAll w news vs ds) : VAll w news' vs ds :=
  VAll.rec (motive_1 := fun v d _ => VIn w news' v d) (motive_2 := fun vs ds _ => VAll w news' vs ds) (motive_3 := fun vs ds _ => VEs w news' vs ds)
    .none .bool .int (fun h1 h2 => .name (hs _ h1) (hs _ h2)) (fun h1 h2 => .string (hs _ h1) (hs _ h2)) (fun h1 h2 => .dec (hs _ h1) (hs _ h2)) (fun h1 h2 => .ref (hs _ h1) (hs _ h2)) (fun h1 _ r => .arr (hs _ h1) r) (fun h1 h2 h3 _ r => .dict (hs _ h1) h2 h3 r) (fun h1 h2 h3 h4 h5 _ r => .stream (hs _ h1) (hs _ h2) (hs _ h3) h4 h5 r) .nil (fun _ _ a b => .cons a b) .nil (fun _ _ a b => .cons a b) h
theorem VEs.mono {w : World} {news news' : List (Addr × Obj)} (hs : ∀ p ∈ news, p ∈ news') {vs : List (Str × Value)} {ds : List (Str × PV)} (h : VEs w news vs ds) : VEs w news' vs ds :=
  VEs.rec (motive_1 := fun v d _ => VIn w news' v d) (motive_2 := fun vs ds _ => VAll w news' vs ds) (motive_3 := fun vs ds _ => VEs w news' vs ds)
    .none .bool .int (fun h1 h2 => .name (hs _ h1) (hs _ h2)) (fun h1 h2 => .string (hs _ h1) (hs _ h2)) (fun h1 h2 => .dec (hs _ h1) (hs _ h2)) (fun h1 h2 => .ref (hs _ h1) (hs _ h2)) (fun h1 _ r => .arr (hs _ h1) r) (fun h1 h2 h3 _ r => .dict (hs _ h1) h2 h3 r) (fun h1 h2 h3 h4 h5 _ r => .stream (hs _ h1) (hs _ h2) (hs _ h3) h4 h5 r) .nil (fun _ _ a b => .cons a b) .nil (fun _ _ a b => .cons a b) h
def toldF : Nat → PV → Dat
  | 0, _ => .none
  | n + 1, d => match d with
    | .none => .tuple [.str "null"]
    | .bool b => .tuple [.str "truth", .int (if b then 1 else 0)]
    | .int i => .tuple [.str "int", .int i]
    | .name s => .tuple [.str "name", .str s]
    | .string b => .tuple [.str "string", .bytes b]
    | .dec t p => .tuple [.str "real", .int t, .int p]
    | .ref n g => .tuple [.str "ref", .int n, .int g]
    | .arr l => .tuple (.str "array" :: l.map (toldF n))
    | .dict l => .tuple (.str "dict" :: l.map fun e => .tuple [.str e.1, toldF n e.2])
    | .stream l b => .tuple [.str "stream", .tuple (.str "dict" :: l.map fun e => .tuple [.str e.1, toldF n e.2]), .bytes b]
def refD (q : Int × Int) : PV := .ref q.1 q.2
def keyK : Nat → Str
  | 0 => "K0" | 1 => "K1" | _ => "K2"
def dictK : Nat → List (Int × Int) → List (Str × PV)
  | _, [] => []
  | i, q :: r => (keyK i, refD q) :: dictK (i + 1) r
def HolderPV (ps : List (Int × Int)) (d : PV) : Prop :=
  d = .arr (ps.map refD) ∨ d = .dict (dictK 0 ps) ∨ d = .arr [.int 1, .dict [("A", .arr (ps.map refD)), ("B", .name "A")], .string #[49, 32, 48, 32, 82]]
theorem kkey {i : Nat} (h : i < 3) : Str.ofString "K" ++ Str.ofString (toString ((0 : Int) + (i : Int))) = keyK i := by
  have h : i = 0 ∨ i = 1 ∨ i = 2 := (by decide : ∀ j, j < 3 → j = 0 ∨ j = 1 ∨ j = 2) i h
  ((k_extra "V1"; rcases h with rfl | rfl | rfl) <;> k_extra "V2") <;> decide +kernel
def kvK : Nat → List Value → List (Str × Value)
  | _, [] => []
  | i, v :: r => (keyK i, v) :: kvK (i + 1) r
theorem kvK_length (ys : List Value) : ∀ i, (kvK i ys).length = ys.length := by
  induction ys with
  | nil => intro i; rfl
  | cons y ys ih => intro i; simp [kvK, ih]
theorem kvK_at (ys : List Value) : ∀ (k i : Nat) (v : Value), ys[i]? = some v → (kvK k ys)[i]? = some (keyK (k + i), v) := by
  induction ys with
  | nil => intro k i v h; simp at h
  | cons y ys ih =>
    intro k i v h
    cases i with
    | zero => simp at h; simp [kvK, h]
    | succ i => simp only [List.getElem?_cons_succ] at h; simpa [kvK, Nat.add_assoc, Nat.add_comm 1 i] using ih (k + 1) i v h
theorem kvK_nodup {ys : List Value} (h : ys.length ≤ 3) : ((kvK 0 ys).map (·.1)).Nodup := by
  ((k_extra "V1"; rcases ys with _ | ⟨a, _ | ⟨b, _ | ⟨c, _ | ⟨d, r⟩⟩⟩⟩) <;> k_extra "V2")
  · exact List.nodup_nil
  · show [keyK 0].Nodup; decide +kernel
  · show [keyK 0, keyK 1].Nodup; decide +kernel
  · show [keyK 0, keyK 1, keyK 2].Nodup; decide +kernel
  · simp at h
theorem kvK_ves {w : World} {tl : List (Addr × Obj)} (ps : List (Int × Int)) : ∀ {ys : List Value} (i : Nat), VAll w tl ys (ps.map refD) → VEs w tl (kvK i ys) (dictK i ps) := by
  induction ps with
  | nil => intro ys i h; cases h; exact .nil
  | cons q ps ih =>
    intro ys i h
    k_extra "V0"
    cases h with
    | cons h r => k_extra "V2"; exact .cons h (ih (i + 1) r)
theorem vall_snoc {w : World} {tl pre : List (Addr × Obj)} {ys : List Value} {y : Value} {ds : List PV} {d : PV} (h : VAll w tl ys ds) (h1 : VIn w (pre ++ tl) y d) : VAll w (pre ++ tl) (ys ++ [y]) (ds ++ [d]) := by
  have h' := h.mono (news' := pre ++ tl) fun _ hp => List.mem_append_right _ hp
  clear h
  induction ys generalizing ds with
  | nil => cases h'; exact .cons h1 .nil
  | cons v vs ih =>
    k_extra "V0"
    cases h' with
    | cons a b => k_extra "V2"; exact .cons a (ih b)
theorem vall_length {w : World} {tl : List (Addr × Obj)} {ys : List Value} : ∀ {ds : List PV}, VAll w tl ys ds → ys.length = ds.length := by
  induction ys with
  | nil => intro ds h; cases h; rfl
  | cons v vs ih =>
    intro ds h
    k_extra "V0"
    cases h with
    | cons a b => k_extra "V2"; simp [ih b]
inductive PairsAt (news : List (Addr × Obj)) : List Value → List (Int × Int) → Prop
  | nil : PairsAt news [] []
  | cons {t : Addr} {a b : Int} {u u' : Tok} {n : Nat} {vs : List Value} {ps : List (Int × Int)} : (t, ({ cls := .type "tuple", data := .seq [.int a u, .int b u'].toArray n } : Obj)) ∈ news → PairsAt news vs ps → PairsAt news (.ref t :: vs) ((a, b) :: ps)
theorem dat_str {n : List (Addr × Obj)} {v : Value} {x : Str} (h : DatIn n v (.str x)) : ∃ t, v = .str x t := by cases h; exact ⟨_, rfl⟩
theorem dat_int {n : List (Addr × Obj)} {v : Value} {i : Int} (h : DatIn n v (.int i)) : ∃ t, v = .int i t := by cases h; exact ⟨_, rfl⟩
theorem dat_tup {n : List (Addr × Obj)} {v : Value} {ds : List Dat} (h : DatIn n v (.tuple ds)) : ∃ a vs c, v = .ref a ∧ (a, ({ cls := .type "tuple", data := .seq (List.toArray vs) c } : Obj)) ∈ n ∧ DatAll n vs ds := by
  k_extra "V0"
  cases h with
  | tuple hm r => k_extra "V2"; exact ⟨_, _, _, rfl, hm, r⟩
theorem dats_cons {n : List (Addr × Obj)} {vs : List Value} {d : Dat} {ds : List Dat} (h : DatAll n vs (d :: ds)) : ∃ v vs', vs = v :: vs' ∧ DatIn n v d ∧ DatAll n vs' ds := by
  k_extra "V0"
  cases h with
  | cons a r => k_extra "V2"; exact ⟨_, _, rfl, a, r⟩
theorem dats_nil {n : List (Addr × Obj)} {vs : List Value} (h : DatAll n vs []) : vs = [] := by cases h; rfl
theorem pairsAll_inv {news : List (Addr × Obj)} (ps : List (Int × Int)) : ∀ {vs : List Value}, DatAll news vs (ps.map pairD) → PairsAt news vs ps := by
  induction ps with
  | nil => intro vs h; rw [dats_nil h]; exact .nil
  | cons q ps ih =>
    intro vs h
    ((k_extra "V1"; obtain ⟨v, vs', e, h1, r⟩ := dats_cons h) <;> k_extra "V2")
    ((k_extra "V1"; obtain ⟨a, us, c, e1, hm, q1⟩ := dat_tup h1) <;> k_extra "V2")
    ((k_extra "V1"; obtain ⟨x, us1, e2, h2, q2⟩ := dats_cons q1) <;> k_extra "V2")
    ((k_extra "V1"; obtain ⟨y, us2, e3, h3, q3⟩ := dats_cons q2) <;> k_extra "V2")
    ((k_extra "V1"; obtain ⟨t, e4⟩ := dat_int h2) <;> k_extra "V2")
    ((k_extra "V1"; obtain ⟨u, e5⟩ := dat_int h3) <;> k_extra "V2")
    rw [e2, e3, e4, e5, dats_nil q3] at hm
    rw [e, e1]
    exact .cons hm (ih r)
theorem pairs_inv {news : List (Addr × Obj)} {v : Value} {ps : List (Int × Int)} (h : DatIn news v (.list (ps.map pairD))) : ∃ l vs n, v = .ref l ∧ (l, listOf vs.toArray n) ∈ news ∧ PairsAt news vs ps := by
  k_extra "V0"
  cases h with
  | list hm r => k_extra "V2"; exact ⟨_, _, _, rfl, hm, pairsAll_inv _ r⟩
theorem PairsAt.at {news : List (Addr × Obj)} {vs : List Value} {ps : List (Int × Int)} (h : PairsAt news vs ps) : ∀ {i : Nat} {v : Value}, vs[i]? = some v → ∃ t a b u u' n, v = .ref t ∧ (t, ({ cls := .type "tuple", data := .seq [.int a u, .int b u'].toArray n } : Obj)) ∈ news ∧ ps[i]? = some (a, b) := by
  induction h with
  | nil => intro i v e; simp at e
  | cons hm _ ih =>
    intro i v e
    cases i with
    | zero => simp only [List.getElem?_cons_zero, Option.some.injEq] at e; exact ⟨_, _, _, _, _, _, e.symm, hm, rfl⟩
    | succ i => simp only [List.getElem?_cons_succ] at e ⊢; exact ih e
theorem PairsAt.length {news : List (Addr × Obj)} {vs : List Value} {ps : List (Int × Int)} (h : PairsAt news vs ps) : vs.length = ps.length := by
  induction h with
  | nil => rfl
  | cons _ _ ih => simp [ih]
theorem tups_snoc {tl pre : List (Addr × Obj)} {ys : List Value} {t : Addr} {k : Str} {u : Tok} {v : Value} {n : Nat} {kvs : List (Str × Value)} (h : TupsAre tl ys kvs) (h1 : (t, ({ cls := .type "tuple", data := .seq #[.str k u, v] n } : Obj)) ∈ pre ++ tl) : TupsAre (pre ++ tl) (ys ++ [.ref t]) (kvs ++ [(k, v)]) := by
  induction h with
  | nil => exact .cons h1 .nil
  | cons hm _ ih => exact .cons (List.mem_append_right _ hm) ih
theorem TupsAre.mono {l l' : List (Addr × Obj)} {vs : List Value} {kvs : List (Str × Value)} (h : TupsAre l vs kvs) (hs : ∀ q ∈ l, q ∈ l') : TupsAre l' vs kvs := by
  induction h with
  | nil => exact .nil
  | cons hm _ ih => exact .cons (hs _ hm) ih
theorem right_use {w : World} {f p c : Addr} {o oc : Obj} {NN M : Int} {news : List (Addr × Obj)} {gg : Obj → List (Addr × Obj)}
    {dp un : Nat} {gd : Option (List Code)} {cn : Str} {cs : Scope} {a : Addr} {ccd : Value} {cl : List (Str × Addr)} {outer : List Env} {A₀ : Around} {base h₀ : Heap} {mean : ExcName → Option Value} {mg mb : Str → Option Value} {L : Addr} {m : Str → Option Value} {s : Shared} {Q E : Value → Shared → Prop}
    (B : Below A₀ base outer h₀) (F : Fr h₀ L s.heap m) (X : (K w.params).In h₀) (N' : News h₀ L s.heap news) (T : TopV mean mg mb h₀)
    (U : UpdF p o news gg) (hC : PenC p c oc) (hc : (c, oc) ∈ news) (C : ∀ fr, (c, oc) ∈ fr → (∀ q ∈ fr, q.1 ≠ p) → CallC w f 291 1503 [.ref p] ((p, o) :: fr) (fun r news' => ∃ o', r = .bool true ∧ news' = (p, o') :: fr ∧ PenInv c (NN + M) o')) (hk : cs.kind = .function) (hd : dp + 291 < recursionLimit) (hu : un + 1503 < cLine)
    (ret : ∀ o' h' tk', Fr h₀ L h' m → News h₀ L h' (gg o') → PenInv c (NN + M) o' → Q (.bool true) { s with heap := h', toks := tk' }) :
    wpAny (model PG w) (ktrTop dp un gd cn cs L a ccd cl outer) (call (.ref f) [.ref p]) Q E s := by
  ((k_extra "V1"; obtain ⟨hcp, hC2⟩ := hC) <;> k_extra "V2")
  ((k_extra "V1"; obtain ⟨pre, post, rfl, hg, a1, a2⟩ := U.split) <;> k_extra "V2")
  have hc2 : (c, oc) ∈ pre ++ post := by
    ((k_extra "V1"; rcases List.mem_append.mp hc with h | h) <;> k_extra "V2")
    · exact List.mem_append_left _ h
    · ((k_extra "V1"; rcases List.mem_cons.mp h with h | h) <;> k_extra "V2")
      · exact absurd (congrArg Prod.fst h) hcp
      · exact List.mem_append_right _ h
  refine (C (pre ++ post) hc2 (fun q hq => (List.mem_append.mp hq).elim (a1 q) (a2 q))).use B F X N' T (fun q hq => ?_) hk hd hu ?_
  · ((k_extra "V1"; rcases List.mem_cons.mp hq with rfl | hq) <;> k_extra "V2")
    · simp
    · simp only [List.mem_append, List.mem_cons] at hq ⊢
      ((k_extra "V1"; rcases hq with h | h) <;> k_extra "V2")
      · exact .inl h
      · exact .inr (.inr h)
  · intro r news' h' tk' F2 N2 z6_
    ((k_extra "V1"; obtain ⟨o', rfl, rfl, h3⟩ := z6_) <;> k_extra "V2")
    refine ret o' h' tk' F2 (fun q hq => N2 q ?_) h3
    rw [hg] at hq
    simp only [List.mem_append, List.mem_cons] at hq ⊢
    ((k_extra "V1"; rcases hq with h | h | h) <;> k_extra "V2")
    · exact .inr (.inl h)
    · exact .inl h
    · exact .inr (.inr h)
theorem pen_start {g h : Heap} {L l D : Addr} {I : Addr × Obj} {ws : List Value} {ns : List Int} {c' n : Nat} {t1 t2 : Tok} {fr : List (Addr × Obj)} (N : News g L h (I :: (l, listOf #[.ref D, .int 0 t1, .int 0 t2] n) :: (D, listOf ws.toArray c') :: fr)) (hI : IntsAre ws (ns.take 24)) (hne : D ≠ l) : PenC l D (listOf ws.toArray c') ∧ PenInv D 0 (listOf #[.ref D, .int 0 t1, .int 0 t2] n) :=
  ⟨⟨hne, ws, _, _, rfl, hI, by rw [List.length_take]; omega⟩, ⟨0, t1, 0, t2, n, rfl, by omega, by omega, by omega⟩⟩
theorem unrEnd0 {h₀ : Heap} {L I : Addr} {it : Obj} {s₁ : Shared} {R : (Str → Option Value) → List (Addr × Obj) → Prop} {h' : Heap} {tk : Nat} {m' : Str → Option Value} {all : List (Addr × Obj)} (F : Fr h₀ L h' m') (N : News h₀ L h' all) (news' : List (Addr × Obj))
    (sub : ∀ p ∈ (I, it) :: news', p ∈ all) (off : ∀ p ∈ news', p.1 ≠ I) (r : R m' news') : UnrEnd h₀ L s₁ I it R { s₁ with heap := h', toks := tk } := ⟨h', tk, m', news', rfl, F, fun p hp => N p (sub p hp), off, r⟩
theorem law_from (hS : ∀ (w : World) (p c : Addr) (o oc : Obj) (fr : List (Addr × Obj)) (N : Int), PenC p c oc → (c, oc) ∈ fr → (∀ q ∈ fr, q.1 ≠ p) → PenInv c N o → N ≤ 80000 → CallC w 484 291 1503 [.ref p] ((p, o) :: fr) (fun r news' => ∃ o', r = .bool true ∧ news' = (p, o') :: fr ∧ PenInv c (N + 101) o'))
    (hF : ∀ (w : World) (p c : Addr) (o oc : Obj) (fr : List (Addr × Obj)) (N : Int), PenC p c oc → (c, oc) ∈ fr → (∀ q ∈ fr, q.1 ≠ p) → PenInv c N o → N ≤ 70000 → CallC w 496 291 1503 [.ref p] ((p, o) :: fr) (fun r news' => ∃ o', r = .bool true ∧ news' = (p, o') :: fr ∧ PenInv c (N + 43) o')) : PySem.Challenge.rw_nn0128_01.Holds := by
  (k_with "GO" =>
  w_on; refine holds_law (by (delta OpenLaw.wellSaid OpenRow.wellSaid OpenRow.partSaid looksOpen; repeat' with_reducible refine look_both ?_ ?_); all_goals decide +kernel) fun said => ?_
  refine holds_open (q := vw) (loose := lo) (Xt := Xt) (XP := XL vw []) (Yf := Hk.obs) (Ya := Hk.val) (YP := Hk.says) (N := 7168) left Hk.of Hk.keeps (fun s e => xl_of s (Bool.and_eq_true_iff.mp e).1) XL.keeps (by rfl) (by rfl) (by rfl) (fun s e => recFacts_of (Bool.and_eq_true_iff.mp e).2) (by rfl) (by first | assumption | decide +kernel) (by decide +kernel) ⟨rfl, rfl, rfl, rfl, rfl, by decide +kernel⟩ ?hw ?hc
  case hw => w_witness2
  case hc =>
    k_fill
    intro w s₀ s₁ mg mb G Y fa o pm cd doc dV kV ho hd hcd hD hmg hg args vals as hpre hlay hrd hwl hlo
    have KX := kIn_of Y
    have X := (Ground.X G).1
    have V := (Ground.X G).2
    refine Ground.open G ?_
    intro T B D TE TW
    refine guard_noD D (by decide +kernel) ?_
    clear D
    obtain  ⟨_, _, M⟩ := bmod_of_top T
    have TA := at_of_top T
    try (obtain ⟨_, _, he, B0⟩ := based_of_top T rfl hmg ho hd; have he2 : cd = _ := he; subst he2; clear he)
    clear hmg
    wrow_args hpre hlay hrd hwl hlo
    refine enter_call ?_
    w_top on
    try refine codeAny_mono ?_ (fun _ _ g => GoodW.toG g)
    have K0 := below_caller (Top.heap T)
    w_call any ho hd hcd hD T F
    clear hd TA
    k_drop
    all_goals try k_fold
    repeat' (k_extra "zS"; (fail_if_success (with_reducible show wpAny _ _ (call (Value.ref 484) _) _ _ _)); first | k_extra "zP" | k_extra "zQ")
    rename (IntsAre _ (List.take 24 _)) => hI0
    rename (News _ _ _ _) => N9
    obtain  ⟨hC0, hp0⟩ := pen_start N9 hI0 (by k_ne)
    repeat' (k_extra "zS"; (fail_if_success (with_reducible show UnrEnd _ _ _ _ _ _ _)); first | k_extra "zP" | ((with_reducible show wpAny _ _ (call (Value.ref 484) _) _ _ _); (show wpAny _ _ (call (Value.ref 484) [_]) _ _ _); refine right_use (by k_asm) (by k_asm) (by k_asm) (by k_asm) (by k_asm) (by k_updF) hC0 (by k_mem) (fun fr q1 q2 => hS _ _ _ _ _ fr _ hC0 q1 q2 (by with_reducible assumption) (by omega)) rfl (by decide) (by decide) ?_; intro oP hhP tkP FP NP hp0; (try dsimp only at NP); (try k_sweep)) | ((with_reducible show wpAny _ _ (call (Value.ref 496) _) _ _ _); (show wpAny _ _ (call (Value.ref 496) [_]) _ _ _); refine right_use (by k_asm) (by k_asm) (by k_asm) (by k_asm) (by k_asm) (by k_updF) hC0 (by k_mem) (fun fr q1 q2 => hF _ _ _ _ _ fr _ hC0 q1 q2 (by with_reducible assumption) (by omega)) rfl (by decide) (by decide) ?_; intro oP hhP tkP FP NP hp0; (try dsimp only at NP); (try k_sweep)) | k_extra "zQ")
    rename (Fr _ _ _ _) => F9; rename (News _ _ _ _) => N9
    refine unrEnd0 (all := (_, _) :: _) F9 N9 _ (fun q hq => hq) (by k_all) (RangeRest.succ fun t2 h2 tk2 F2 N2 => ?_)
    clear F9 N9
    repeat' (k_extra "zS"; (fail_if_success (with_reducible show UnrEnd _ _ _ _ _ _ _)); first | k_extra "zP" | ((with_reducible show wpAny _ _ (call (Value.ref 484) _) _ _ _); (show wpAny _ _ (call (Value.ref 484) [_]) _ _ _); refine right_use (by k_asm) (by k_asm) (by k_asm) (by k_asm) (by k_asm) (by k_updF) hC0 (by k_mem) (fun fr q1 q2 => hS _ _ _ _ _ fr _ hC0 q1 q2 (by with_reducible assumption) (by omega)) rfl (by decide) (by decide) ?_; intro oP hhP tkP FP NP hp0; (try dsimp only at NP); (try k_sweep)) | ((with_reducible show wpAny _ _ (call (Value.ref 496) _) _ _ _); (show wpAny _ _ (call (Value.ref 496) [_]) _ _ _); refine right_use (by k_asm) (by k_asm) (by k_asm) (by k_asm) (by k_asm) (by k_updF) hC0 (by k_mem) (fun fr q1 q2 => hF _ _ _ _ _ fr _ hC0 q1 q2 (by with_reducible assumption) (by omega)) rfl (by decide) (by decide) ?_; intro oP hhP tkP FP NP hp0; (try dsimp only at NP); (try k_sweep)) | k_extra "zQ")
    rename (Fr _ _ _ _) => F9; rename (News _ _ _ _) => N9
    refine unrEnd0 (all := (_, _) :: _) F9 N9 _ (fun q hq => hq) (by k_all) (RangeRest.zero fun h2 tk2 F2 N2 => ?_)
    clear F9 N9
    repeat' (k_extra "zS"; first | k_extra "zP" | (k_end; wrow_close) | k_extra "zQ")
  )
  k_extra "GG"
theorem pen_mono {c : Addr} {o : Obj} {N M : Int} (h : PenInv c N o) (hl : N ≤ M) : PenInv c M o := by
  ((k_extra "V1"; obtain ⟨sp, t1, ac, t2, n, e, h1, h2, h3⟩ := h) <;> k_extra "V2")
  exact ⟨sp, t1, ac, t2, n, e, h1, by omega, h3⟩
theorem small4 {d : Int} (h1 : 0 ≤ d) (h2 : d < 4) : Builtin.Range.small 0 d 1 = true ∧ Builtin.Range.rangeSize 0 d 1 = ((d.toNat : Nat) : Int) := by
  have h := int4 h1 h2
  ((k_extra "V1"; rcases h with rfl | rfl | rfl | rfl) <;> k_extra "V2") <;> decide
theorem datAll_snoc {tl pre : List (Addr × Obj)} {ys : List Value} {y : Value} {ds : List Dat} {d : Dat} (h : DatAll tl ys ds) (h1 : DatIn (pre ++ tl) y d) : DatAll (pre ++ tl) (ys ++ [y]) (ds ++ [d]) :=
  (h.mono fun _ hp => List.mem_append_right _ hp).append (.cons h1 .nil)
theorem pairs_ok (w : World) (p c : Addr) (o oc : Obj) (fr : List (Addr × Obj)) (N : Int) (hC : PenC p c oc) (hc : (c, oc) ∈ fr) (hfr : ∀ q ∈ fr, q.1 ≠ p) (ho : PenInv c N o) (hN : N ≤ 90000) :
    CallC w 460 10 50 [.ref p] ((p, o) :: fr) (fun r news' => ∃ l o' tl ps, r = .ref l ∧ news' = (p, o') :: (tl ++ fr) ∧ DatIn tl (.ref l) (.list (ps.map pairD)) ∧ PairsOk ps ∧ Apart ((p, o) :: fr) tl ∧ PenInv c (N + 7) o') := by
  (k_with "GO" =>
  refine enterCC (dc := 9) (uc := 47) (binds := [("pen", .ref p)]) (look_460 _) (code_460 _) (fun s _ => BindsTo.of_eq rfl) rfl (by decide +kernel) rfl rfl rfl ?_
  intro dp un gd outer A₀ base g mean mg mb L s cells B F X N' Y l1 T hd hu
  (try k_lt l1); k_cells Y
  simp only [List.cons_append, List.nil_append] at N'
  rename (_ = Data.cell _) => hcell
  rename_i oce; rename (@LT.lt Nat _ _ _) => pl; rename AllLt _ _ => l1
  replace N' : News g L s.heap ((p, o) :: (L + 1, oce) :: fr) := news_sub N' (by k_extra "zU")
  change Fr g L s.heap (fun _ => none) at F
  change _ = Data.cell (some (.ref p)) at hcell
  have hpL : p ≠ L + 1 := by have := pl; exact Nat.ne_of_lt (Nat.lt_succ_of_lt this)
  dsimp only [F460]
  repeat' (k_extra "zS"; (fail_if_success (with_reducible show LCg.CompSrc _ _ _ _ _ _ _ _ _ _ _ _ _ _)); first | k_extra "zP" | k_extra "zQ")
  rename (IsRange _ _ _ _ _ _ _ _) => hR
  rename (_ < (4 : Int)) => hlt4
  rename (PenInv _ _ _) => hp0
  refine LCg.CompSrc.range (by rfl) (by k_asm) (by k_asm) hR (small4 (by assumption) hlt4).1 (small4 (by assumption) hlt4).2 (by rw [sizeLine_eq]; omega) ?_
  intro g1
  refine comp_mut (fun i o tl ys => ∃ ps : List (Int × Int), ps.length = i ∧ (∀ q ∈ ps, PairOk q) ∧ DatAll tl ys (ps.map pairD) ∧ PenInv c (N + 1 + 2 * i) o) ⟨[], rfl, by simp, .nil, by simpa using hp0⟩ ?_ ?_
  · intro i v ys oi tl hi z6_ hy htp hta z10_ I oI C oC D m2 h1 tk1 E' hNs hx F1 N1 pI pC pD o1 o2 ne
    ((k_extra "V1"; obtain ⟨tv, rfl⟩ := z6_) <;> k_extra "V2")
    ((k_extra "V1"; obtain ⟨ps, hpl, hpo, hpd, hpi⟩ := z10_) <;> k_extra "V2")
    ((k_extra "V1"; obtain ⟨ne1, ne2, ne3⟩ := ne) <;> k_extra "V2")
    simp only [LCg.Off3] at o2
    ((k_extra "V1"; obtain ⟨⟨oL1, oL2, oL3⟩, o3⟩ := o2) <;> k_extra "V2")
    repeat' (k_extra "zS"; first | k_extra "zP" | ((with_reducible show wpAny _ _ (binaryOp Operator.FloorDiv _ _) _ _ _); refine fdiv_lit (by omega) (by omega) (by omega) ?_; intro z' hz1') | k_extra "zQ")
    refine' cpost_mut [_] (by assumption) (by assumption) ?e1 pI pC pD o1 ?e3 ?e4 htp ?e5 hta trivial ⟨ps ++ [(_, _)], ?f1, ?f2, ?f3, ?f4⟩
    case e1 => k_extra "OFF"
    case e3 => exact ⟨⟨oL1, oL2, oL3⟩, o3⟩
    case e4 => exact List.forall_mem_cons.mpr ⟨by k_ne, List.forall_mem_nil _⟩
    case e5 => k_extra "zA"
    case f3 => rw [List.map_append]; exact datAll_snoc hpd (by k_extra "DAT")
    case f1 => simp [hpl]
    case f2 => intro q hq; rcases List.mem_append.mp hq with hq | hq; exact hpo q hq; rw [List.mem_singleton.mp hq]; refine ⟨?_, ?_, ?_, ?_⟩ <;> dsimp only <;> omega
    case f4 => exact pen_mono (by assumption) (by omega)
  · intro oe tl ys hy htp hta z6_
    ((k_extra "V1"; obtain ⟨ps, hpl, hpo, hpd, hpi⟩ := z6_) <;> k_extra "V2")
    have hta' : Apart ((p, o) :: fr) tl := Apart.lcons htp hta.ltail
    repeat' (k_extra "zS"; first | k_extra "zP" | k_extra "zQ")
    refine RetP.intro (news' := (p, oe) :: ([(D', LCg.lst ys), (L + 1, oce)] ++ tl ++ fr)) (by assumption) (fun q hq => ?sub) ⟨_, _, _, ps, rfl, rfl, ?g1, ?g2, ?g3, ?g4⟩
    case g1 => exact .list (List.mem_cons_self) (hpd.mono fun _ hq => List.mem_append_right _ hq)
    case g2 => exact ⟨by omega, hpo⟩
    case g3 => k_extra "zA"
    case g4 => exact pen_mono hpi (by omega)
    case sub =>
      exact news_sub N' (by k_extra "zU") q hq
  )
  k_extra "GG"
theorem holder_ok (w : World) (p c l : Addr) (o oc : Obj) (fr : List (Addr × Obj)) (N : Int) (ps : List (Int × Int)) (hps : PairsOk ps) (hl : DatIn fr (.ref l) (.list (ps.map pairD))) (hC : PenC p c oc) (hc : (c, oc) ∈ fr) (hfr : ∀ q ∈ fr, q.1 ≠ p) (ho : PenInv c N o) (hN : N ≤ 90000) :
    CallC w 465 10 60 [.ref p, .ref l] ((p, o) :: fr) (fun r news' => ∃ o' tl pv, news' = (p, o') :: (tl ++ fr) ∧ VIn w tl r pv ∧ HolderPV ps pv ∧ Apart ((p, o) :: fr) tl ∧ PenInv c (N + 1) o') := by
  (k_with "GO" =>
  ((k_extra "V1"; obtain ⟨l', vs, nn, e, hm, hp⟩ := pairs_inv hl) <;> k_extra "V2")
  ((k_extra "V1"; cases e) <;> k_extra "V2")
  clear hl
  refine enterCC (dc := 9) (uc := 57) (binds := [("pen", .ref p), ("pairs", .ref l)]) (look_465 _) (code_465 _) (fun s _ => BindsTo.of_eq rfl) rfl (by decide +kernel) rfl rfl rfl ?_
  intro dp un gd outer A₀ base g mean mg mb L s cells B F X N' Y l1 T hd hu
  (try k_lt l1); k_cells Y
  simp only [List.cons_append, List.nil_append] at N'
  rename (_ = Data.cell _) => hcell
  rename_i oce; rename (@LT.lt Nat _ _ _) => pl; rename AllLt _ _ => l1
  change Fr g L s.heap (fun z => if z = Str.ofString "pairs" then some (.ref l) else if z = Str.ofString "pen" then some (.ref p) else none) at F
  change _ = Data.cell none at hcell
  have hpL : p ≠ L + 1 := by have := pl; exact Nat.ne_of_lt (Nat.lt_succ_of_lt this)
  have hfL : ∀ q ∈ fr, q.1 ≠ L + 1 := allLt_ne (allLt_mono l1 (Or.inl (Nat.lt_succ_self _)))
  dsimp only [F465]
  have hvl := hp.length
  have hlen := hps.1
  repeat' (k_extra "zS"; (fail_if_success (with_reducible show LCp.SrcLP _ _ _ _ _ _ _ _ _ _ _ _ _ _ _)); first | k_extra "zP" | k_extra "zQ")
  refine LCp.SrcLP.ledger (by rfl) (by k_asm) (by k_asm) (by k_mem) (by rw [sizeLine_eq, List.size_toArray]; omega) ?_
  intro g1
  refine compP_pure (fun i tl ys => VAll w tl ys ((ps.take i).map refD)) .nil ?_ ?_
  · intro i v ys tl hi hv hy hta hJ
    ((k_extra "V1"; obtain ⟨t, a, b, u, u', n2, rfl, hmt, hpi⟩ := hp.at (by simpa using hv)) <;> k_extra "V2")
    refine ⟨t, _, _, _, _, rfl, by k_mem, rfl, rfl, ?_⟩
    intro I oI C oC D m2 h1 tk1 E' hNs hx hx2 F1 N1 o1 o2 ne
    ((k_extra "V1"; obtain ⟨ne1, ne2, ne3⟩ := ne) <;> k_extra "V2")
    ((k_extra "V1"; obtain ⟨⟨oL1, oL2, oL3⟩, ⟨p1, p2, p3⟩, o3⟩ := id o2) <;> k_extra "V2")
    repeat' (k_extra "zS"; first | k_extra "zP" | k_extra "zQ")
    refine' cpost_pure [_, _] (by assumption) (by assumption) ?e1 o1 o2 ?e5 hta ?e6 ?e7
    case e1 => k_extra "OFF"
    case e5 => k_extra "zA"
    case e6 => lcg_src
    case e7 => show VAll w _ _ _; rw [List.take_add_one, hpi, Option.toList_some, List.map_append]; exact vall_snoc hJ (by k_extra "VIN")
  · intro tl ys hy hta hJ
    rw [List.size_toArray, hvl] at hy
    replace hJ : VAll w tl ys (ps.map refD) := by simpa [hvl] using hJ
    have hta' : Apart ((p, o) :: fr) tl := hta.ltail
    have htL : ∀ q ∈ tl, q.1 ≠ L + 1 := hta.ne List.mem_cons_self
    have htp : ∀ q ∈ tl, q.1 ≠ p := hta'.ne List.mem_cons_self
    repeat' (k_extra "zS"; (fail_if_success (with_reducible show LCg.CompSrc _ _ _ _ _ _ _ _ _ _ _ _ _ _)); first | k_extra "zP" | k_extra "zQ")
    · k_extra "RETP"
      refine' ⟨_, _, _, rfl, ?v, Or.inl rfl, ?a, ?pn⟩
      case v => refine' VIn.arr ?k1 ?k2; (case k1 => k_mem); (case k2 => exact hJ.mono fun _ hq => by k_mem)
      case a => k_extra "zA"
      case pn => assumption
    · rename (IsRange _ _ _ _ _ _ _ _) => hR
      have hy3 : (ys.length : Int) < 4 := by omega
      refine LCg.CompSrc.range (by rfl) (by k_asm) (by k_asm) hR (small4 (by omega) hy3).1 (small4 (by omega) hy3).2 (by rw [sizeLine_eq]; omega) ?_
      intro g2
      refine comp_pure (fun i tl2 ts => TupsAre tl2 ts ((kvK 0 ys).take i)) .nil ?_ ?_
      · intro i v ts tl2 hi z5_ hy2 hta2 hJ2 I oI C oC D m2 h1 tk1 E' hNs hx F1 N1 o1 o2 ne
        ((k_extra "V1"; obtain ⟨tv, rfl⟩ := z5_) <;> k_extra "V2")
        ((k_extra "V1"; obtain ⟨ne1, ne2, ne3⟩ := ne) <;> k_extra "V2")
        have hi3 : i < 3 := by omega
        have hget : ys[i]? = some ys[i] := List.getElem?_eq_getElem (by omega)
        have hkv := kvK_at ys 0 i _ hget
        repeat' (k_extra "zS"; first | k_extra "zP" | ((with_reducible show wpAny _ _ (subscriptTail _ _ (Value.ref _) (Value.int _ _)) _ _ _); (refine' item_litK (v := ys[i]) ?k1 ?k2 ?k3 ?k4 ?_ ?k6; (case k1 => exact News.isList (by k_asm) (by k_mem)); (case k2 => omega); (case k3 => omega); (case k4 => simpa using hget); (case k6 => with_unfolding_all rfl))) | k_extra "zQ")
        refine' cpost_pure [_] (by assumption) (by assumption) ?e1 o1 o2 ?e5 hta2 trivial ?e7
        case e1 => k_extra "OFF"
        case e5 => k_extra "zA"
        case e7 => show TupsAre _ _ _; rw [List.take_add_one, hkv, Option.toList_some, Nat.zero_add, ← kkey hi3]; exact tups_snoc hJ2 List.mem_cons_self
      · intro tl2 ts hy2 hta2 hJ2
        have hta3 : Apart ((p, o) :: fr) tl2 := Apart.lcons (hta2.ne (d := p) (by k_mem)) (fun q hq => hta2 q (by k_mem))
        rw [show ((ys.length : Int).toNat) = (kvK 0 ys).length by rw [kvK_length]; omega, List.take_length] at hJ2
        repeat' (k_extra "zS"; first | k_extra "zP" | ((with_reducible show wpAny _ _ (call (Value.type "dict") [Value.ref _]) _ _ _); refine' dict_tups ?k1 ?k2 ?k3 (Top.nolimit ?k4) ?k5 (hJ2.mono ?k6) ?k7 (kvK_nodup (by omega)) ?_; (case k1 => rfl); (case k2 => k_asm); (case k3 => k_asm); (case k4 => k_asm); (case k5 => k_mem); (case k6 => (intro q hq; k_mem)); (case k7 => (rw [kvK_length]; omega)); intro d' h' o' tk' F' N' l1' lo' hd'; (try simp only [AllLt, allLt_append, and_true, and_assoc] at l1'); (repeat (have k_l := And.left l1'; replace l1' := And.right l1')); (try k_sweep)) | k_extra "zQ")
        k_extra "RETP"
        refine' ⟨_, _, _, rfl, ?v, Or.inr (Or.inl rfl), ?a, ?pn⟩
        case v => exact VIn.dict (by k_mem) hd' lo' ((kvK_ves ps 0 hJ).mono fun _ hq => by k_mem)
        case a => k_extra "zA"
        case pn => assumption
    · k_extra "RETP"
      refine' ⟨_, _, _, rfl, ?v, Or.inr (Or.inr rfl), ?a, ?pn⟩
      case v =>
        refine' VIn.arr ?k1 ?k2
        case k1 => k_mem
        case k2 =>
          refine .cons (.int _ _) (.cons (.dict (by k_mem) (by assumption) (by assumption) (.cons ?q1 (.cons ?q2 .nil))) (.cons ?q3 .nil))
          case q1 => exact VIn.arr (by k_mem) (hJ.mono fun _ hq => by k_mem)
          case q2 => k_extra "VIN"
          case q3 => k_extra "VIN"
      case a => k_extra "zA"
      case pn => assumption
  )
  k_extra "GG"
inductive TabIn (w : World) (news : List (Addr × Obj)) : List (Int × Value) → List (Int × Int × PV) → Prop
  | nil : TabIn w news [] []
  | cons {t : Addr} {k g : Int} {u : Tok} {v : Value} {n : Nat} {d : PV} {kvs : List (Int × Value)} {tab : List (Int × Int × PV)} : (t, ({ cls := .type "tuple", data := .seq #[.int g u, v] n } : Obj)) ∈ news → VIn w news v d → TabIn w news kvs tab → TabIn w news ((k, .ref t) :: kvs) ((k, g, d) :: tab)
theorem TabIn.mono {w : World} {l l' : List (Addr × Obj)} {kvs : List (Int × Value)} {tab : List (Int × Int × PV)} (h : TabIn w l kvs tab) (hs : ∀ q ∈ l, q ∈ l') : TabIn w l' kvs tab := by
  induction h with
  | nil => exact .nil
  | cons hm hv _ ih => exact .cons (hs _ hm) (hv.mono hs) ih
inductive ShelfAt (w : World) (fr : List (Addr × Obj)) (S T TR : Addr) : Prop
  | mk : ∀ sd t t' n, (S, instObj 370 sd) ∈ fr → (sd, dictOf [ent w "table" t (.ref T), ent w "trailer" t' (.ref TR)] n) ∈ fr → ShelfAt w fr S T TR
theorem item_menu {prog : Program} {w : World} {A : Around} {E : Value → Shared → Prop} {s : Shared} {value slice : PySem.Expr} {l : Addr} {vs : List Value} {k : Int} {u : Tok} {Q : Value → Shared → Prop} (hl : s.heap.IsList l vs.toArray) (h0 : 0 ≤ k) (hk : k < vs.length) (hsz : vs.length < 1000) (h : ∀ v, vs[k.toNat]? = some v → Q v s)
    (hs : subscripted slice false (.ref l) (.int k u) = operate [.ref l, .int k u] (getItem (.ref l) (.int k u)) := by with_unfolding_all rfl) :
    wpAny (model prog w) A (subscriptTail value slice (.ref l) (.int k u)) Q E s := by
  have e : vs[k.toNat]? = some vs[k.toNat] := List.getElem?_eq_getElem (by omega)
  exact item_litK hl h0 (by omega) e (h _ e) hs
theorem menu_bytes {b0 b1 b2 b3 : Array UInt8} {t0 t1 t2 t3 : Tok} {k : Nat} {v : Value} (h : [Value.bytes b0 t0, .bytes b1 t1, .bytes b2 t2, .bytes b3 t3][k]? = some v) (h0 : b0.size ≤ 7) (h1 : b1.size ≤ 7) (h2 : b2.size ≤ 7) (h3 : b3.size ≤ 7) : ∃ b t, v = .bytes b t ∧ b.size ≤ 7 := by
  match k, h with
  | 0, h => cases h; exact ⟨_, _, rfl, h0⟩
  | 1, h => cases h; exact ⟨_, _, rfl, h1⟩
  | 2, h => cases h; exact ⟨_, _, rfl, h2⟩
  | 3, h => cases h; exact ⟨_, _, rfl, h3⟩
theorem menu_ints {a b c : Int} {t0 t1 t2 : Tok} {k : Nat} {v : Value} (h : [Value.int a t0, .int b t1, .int c t2][k]? = some v) (h0 : 0 ≤ a ∧ a ≤ 9) (h1 : 0 ≤ b ∧ b ≤ 9) (h2 : 0 ≤ c ∧ c ≤ 9) : ∃ n t, v = .int n t ∧ 0 ≤ n ∧ n ≤ 9 := by
  match k, h with
  | 0, h => cases h; exact ⟨_, _, rfl, h0⟩
  | 1, h => cases h; exact ⟨_, _, rfl, h1⟩
  | 2, h => cases h; exact ⟨_, _, rfl, h2⟩
theorem news_spl2 {g h : Heap} {L : Addr} {a b : Addr × Obj} {fr l pre : List (Addr × Obj)} (N : News g L h l) (S : SplC [a, b] fr l pre) : News g L h (a :: b :: (pre ++ fr)) := news_spl N S
theorem news_spl3 {g h : Heap} {L : Addr} {a b c : Addr × Obj} {fr l pre : List (Addr × Obj)} (N : News g L h l) (S : SplC [a, b, c] fr l pre) : News g L h (a :: b :: c :: (pre ++ fr)) := news_spl N S
theorem news_spl4 {g h : Heap} {L : Addr} {a b c d : Addr × Obj} {fr l pre : List (Addr × Obj)} (N : News g L h l) (S : SplC [a, b, c, d] fr l pre) : News g L h (a :: b :: c :: d :: (pre ++ fr)) := news_spl N S
theorem news_spl5 {g h : Heap} {L : Addr} {a b c d e : Addr × Obj} {fr l pre : List (Addr × Obj)} (N : News g L h l) (S : SplC [a, b, c, d, e] fr l pre) : News g L h (a :: b :: c :: d :: e :: (pre ++ fr)) := news_spl N S
theorem dict_shape {prog : Program} {w : World} {K : Type} [DecidableEq K] {knd : PySem.KeyKind prog w K} {o : Obj} {kvs : List (K × Value)} (h : o.IsDictOf knd kvs) : ∃ es n, o = dictOf es n := by
  ((k_extra "V1"; obtain ⟨es, ep, ⟨h1, h2, h3⟩, hd, _⟩ := h) <;> k_extra "V2")
  ((k_extra "V1"; obtain ⟨c, d, dat, sl⟩ := o) <;> k_extra "V2")
  simp only at h1 h2 h3 hd
  subst h1 h2 h3 hd
  exact ⟨es.toList, ep, by simp⟩
def PutPost (w : World) (news : List (Addr × Obj)) (gg : Obj → List (Addr × Obj)) (kvs : List (Int × Value)) (num gen : Int) (tg : Tok) (v : Value) (r : Value) (news' : List (Addr × Obj)) : Prop :=
  r = .none ∧ ∃ t oT' n', (∀ q ∈ (t, ({ cls := .type "tuple", data := .seq #[.int gen tg, v] n' } : Obj)) :: gg oT', q ∈ news') ∧ AllLt t news ∧ oT'.IsDictOf (PySem.intKind PG w) (stored kvs num (.ref t))
theorem putc_ref {w : World} {S T TR sd : Addr} {oT : Obj} {gg : Obj → List (Addr × Obj)} {kvs : List (Int × Value)} {num gen : Int} {tn tg : Tok} {tS tS' : Tok} {nS : Nat} {news : List (Addr × Obj)} {va : Addr}
    (hS1 : (S, instObj 370 sd) ∈ news) (hS2 : (sd, dictOf [ent w "table" tS (.ref T), ent w "trailer" tS' (.ref TR)] nS) ∈ news) (U : UpdF T oT news gg) (hT : oT.IsDictOf (PySem.intKind PG w) kvs) (hkl : kvs.length ≤ 1000) :
    CallC w 334 1 3 [.ref S, .int num tn, .int gen tg, .ref va] news (PutPost w news gg kvs num gen tg (.ref va)) := by
  (k_with "GO" =>
  have hTm : (T, oT) ∈ news := by obtain ⟨pre, post, rfl, _⟩ := U.split; simp
  refine enterC (dc := 0) (uc := 0) (binds := [("self", .ref S), ("number", .int num tn), ("generation", .int gen tg), ("value", .ref va)]) (look_334 _) (code_334 _) (fun s _ => BindsTo.of_eq rfl) (locs rfl) rfl rfl rfl (by decide) ?_
  intro dp un gd outer A₀ base g mean mg mb L s B F X N T' hd hu
  dsimp only [F334]
  repeat' (k_extra "zS"; first | k_extra "zP" | ((with_reducible show wpAny _ _ (setItem (Value.ref _) (Value.int _ _) _) _ _ _); (rename AllLt _ _ => l9); refine' kda_set (knd := PySem.intKind _ _) ?F ?N ?U ?d (intKind_is _ _ _ _) ?z ?_; (case F => k_asm); (case N => k_asm); (case U => exact UpdF.tail (Ne.symm (Nat.ne_of_lt (allLt_all l9 _ hTm))) U); (case d => exact hT); (case z => (rw [sizeLine_eq]; omega)); intro h9 o9 F9 N9 hd9; (try dsimp only at N9)) | k_extra "zQ")
  exact RetP.intro F9 N9 ⟨rfl, _, o9, _, fun q hq => hq, l9, hd9⟩
  )
  k_extra "GG"
theorem putc_int {w : World} {S T TR sd : Addr} {oT : Obj} {gg : Obj → List (Addr × Obj)} {kvs : List (Int × Value)} {num gen : Int} {tn tg : Tok} {tS tS' : Tok} {nS : Nat} {news : List (Addr × Obj)} {vi : Int} {ti : Tok}
    (hS1 : (S, instObj 370 sd) ∈ news) (hS2 : (sd, dictOf [ent w "table" tS (.ref T), ent w "trailer" tS' (.ref TR)] nS) ∈ news) (U : UpdF T oT news gg) (hT : oT.IsDictOf (PySem.intKind PG w) kvs) (hkl : kvs.length ≤ 1000) :
    CallC w 334 1 3 [.ref S, .int num tn, .int gen tg, .int vi ti] news (PutPost w news gg kvs num gen tg (.int vi ti)) := by
  (k_with "GO" =>
  have hTm : (T, oT) ∈ news := by obtain ⟨pre, post, rfl, _⟩ := U.split; simp
  refine enterC (dc := 0) (uc := 0) (binds := [("self", .ref S), ("number", .int num tn), ("generation", .int gen tg), ("value", .int vi ti)]) (look_334 _) (code_334 _) (fun s _ => BindsTo.of_eq rfl) (locs rfl) rfl rfl rfl (by decide) ?_
  intro dp un gd outer A₀ base g mean mg mb L s B F X N T' hd hu
  dsimp only [F334]
  repeat' (k_extra "zS"; first | k_extra "zP" | ((with_reducible show wpAny _ _ (setItem (Value.ref _) (Value.int _ _) _) _ _ _); (rename AllLt _ _ => l9); refine' kda_set (knd := PySem.intKind _ _) ?F ?N ?U ?d (intKind_is _ _ _ _) ?z ?_; (case F => k_asm); (case N => k_asm); (case U => exact UpdF.tail (Ne.symm (Nat.ne_of_lt (allLt_all l9 _ hTm))) U); (case d => exact hT); (case z => (rw [sizeLine_eq]; omega)); intro h9 o9 F9 N9 hd9; (try dsimp only at N9)) | k_extra "zQ")
  exact RetP.intro F9 N9 ⟨rfl, _, o9, _, fun q hq => hq, l9, hd9⟩
  )
  k_extra "GG"
theorem put_use {w : World} {gg : Obj → List (Addr × Obj)} {kvs : List (Int × Value)} {num gen : Int} {tg : Tok} {v : Value} {vs : List Value} {dp un : Nat} {gd : Option (List Code)} {cn : Str} {cs : Scope} {a : Addr} {ccd : Value} {cl : List (Str × Addr)} {outer : List Env} {A₀ : Around} {base h₀ : Heap} {mean : ExcName → Option Value} {mg mb : Str → Option Value} {L : Addr} {m : Str → Option Value} {s : Shared} {Q E : Value → Shared → Prop} {news : List (Addr × Obj)}
    (B : Below A₀ base outer h₀) (F : Fr h₀ L s.heap m) (X : (K w.params).In h₀) (N : News h₀ L s.heap news) (T' : TopV mean mg mb h₀) (hk : cs.kind = .function) (hd : dp + 3 < recursionLimit) (hu : un + 30 < cLine)
    (C : CallC w 334 1 3 vs news (PutPost w news gg kvs num gen tg v))
    (ret : ∀ t oT' n' h' tk', Fr h₀ L h' m → News h₀ L h' ((t, ({ cls := .type "tuple", data := .seq #[.int gen tg, v] n' } : Obj)) :: gg oT') → AllLt t news → oT'.IsDictOf (PySem.intKind PG w) (stored kvs num (.ref t)) → Q .none { s with heap := h', toks := tk' }) :
    wpAny (model PG w) (ktrTop dp un gd cn cs L a ccd cl outer) (call (.ref 334) vs) Q E s := by
  refine C.use B F X N T' (fun p hp => hp) hk (by omega) (by omega) ?_
  intro r news' h' tk' F2 N2 z6_
  ((k_extra "V1"; obtain ⟨rfl, t, oT', n', h1, h2, h3⟩ := z6_) <;> k_extra "V2")
  exact ret t oT' n' h' tk' F2 (fun q hq => N2 q (h1 q hq)) h2 h3
def msgLen (k : Int) (n : Nat) : Str := Str.ofString "Length is " ++ Str.ofString (toString k) ++ Str.ofString ", not " ++ Str.ofString (toString (n : Int))
def lenRow (num : Int) (lv : Value) (n : Nat) : List Dat := match lv with
  | .int k _ => if k = n then [] else [.tuple [.str "length", .int num, .str (msgLen k n)]]
  | _ => [.tuple [.str "length", .int num, .str "Length is no whole number"]]
inductive OctTail (w : World) (p T D h : Addr) (o oT : Obj) (fr : List (Addr × Obj)) (num : Int) (tb : Tok) (b : Array UInt8) (lv : Value) (kvs : List (Int × Value)) (ds : List Value) (nD : Nat) (r : Value) (news' : List (Addr × Obj)) : Prop
  | mk : ∀ oT' tl t u nT st sx ts tsh nS add nD', news' = (p, o) :: (T, oT') :: (D, listOf (ds ++ add).toArray nD') :: (tl ++ fr) → oT'.IsDictOf (PySem.intKind PG w) (stored kvs num (.ref t)) → (t, ({ cls := .type "tuple", data := .seq #[.int 0 u, .ref st] nT } : Obj)) ∈ tl → (st, instObj 221 sx) ∈ tl → (sx, dictOf [ent w "head" ts (.ref h), ent w "octets" tsh (.bytes b tb)] nS) ∈ tl → DatAll tl add (lenRow num lv b.size) → Apart ((p, o) :: (T, oT) :: (D, listOf ds.toArray nD) :: fr) tl → OctTail w p T D h o oT fr num tb b lv kvs ds nD r news'
theorem octets_tail (w : World) (p S T TR D h : Addr) (o oT : Obj) (fr : List (Addr × Obj)) (num : Int) (tn tb : Tok) (b : Array UInt8) (lv : Value) (kvs : List (Int × Value)) (ds : List Value) (nD : Nat) (hfp : ∀ q ∈ fr, q.1 ≠ p) (hfT : ∀ q ∈ fr, q.1 ≠ T) (hfD : ∀ q ∈ fr, q.1 ≠ D) (hpT : p ≠ T) (hpD : p ≠ D) (hTD : T ≠ D)
    (hS : ShelfAt w fr S T TR) (hT : oT.IsDictOf (PySem.intKind PG w) kvs) (hkl : kvs.length ≤ 1000) (hdl : ds.length ≤ 1000) (hn0 : 0 ≤ num) (hn1 : num ≤ 100) (hb : b.size ≤ 7) (hlv : lv = .none ∨ ∃ k tk, lv = .int k tk ∧ 0 ≤ k ∧ k ≤ 9)
    {dp un : Nat} {gd : Option (List Code)} {outer : List Env} {A₀ : Around} {base g : Heap} {mean : ExcName → Option Value} {mg mb : Str → Option Value} {L : Addr} {s : Shared} {m : Str → Option Value}
    (B : Below A₀ base outer g) (F : Fr g L s.heap m) (X : (K w.params).In g) (N' : News g L s.heap ((p, o) :: (T, oT) :: (D, listOf ds.toArray nD) :: fr)) (T' : TopV mean mg mb g) (hd : dp + 9 < recursionLimit) (hu : un + 57 < cLine)
    (m1 : m "shelf" = some (.ref S)) (m2 : m "number" = some (.int num tn)) (m3 : m "due" = some (.ref D)) (m4 : m "octets" = some (.bytes b tb)) (m5 : m "length" = some lv) (m6 : m "head" = some (.ref h)) :
    wpAny (model PG w) (ktrTop dp un gd "_law_octets" F472.1.2.2 L 472 (.ref 471) [] outer) (execs (F472.1.2.1.drop 5) (envOf "_law_octets" F472.1.2.2 L 472 (.ref 471)))
      (RetP g L s (OctTail w p T D h o oT fr num tb b lv kvs ds nD)) (fun _ _ => False) s := by
  (k_with "GO" =>
  ((k_extra "V1"; obtain ⟨sd, tS, tS', nS, hS1, hS2⟩ := hS) <;> k_extra "V2")
  dsimp only [F472, List.drop]
  ((k_extra "V1"; rcases hlv with rfl | ⟨k, tkL, rfl, hk0, hk1⟩) <;> k_extra "V2")
  · repeat' (k_extra "zS"; first | k_extra "zP" | k_extra "PUTR" | k_extra "zM" | k_extra "zQ")
    rename (News _ _ _ _) => N9; simp only [List.push_toArray] at N9
    (with_reducible refine retP_splC (C := [(p, o), (T, _), (D, _)]) (fr := fr) (by assumption) (by assumption) (by k_extra "SPLT") ?_)
    refine' ⟨_, _, _, _, _, _, _, _, _, _, [_], _, rfl, ?a1, ?a2, ?a3, ?a4, ?a5, ?a6⟩
    case a1 => assumption
    case a2 => k_mem
    case a3 => k_mem
    case a4 => k_mem
    case a5 => k_extra "DATS"
    case a6 => k_extra "zA"
  · repeat' (k_extra "zS"; first | k_extra "zP" | k_extra "PUTR" | k_extra "zM" | k_extra "zQ")
    · rename (News _ _ _ _) => N9; simp only [List.push_toArray] at N9
      (with_reducible refine retP_splC (C := [(p, o), (T, _), (D, _)]) (fr := fr) (by assumption) (by assumption) (by k_extra "SPLT") ?_)
      refine' ⟨_, _, _, _, _, _, _, _, _, _, [_], _, rfl, ?a1, ?a2, ?a3, ?a4, ?a5, ?a6⟩
      case a1 => assumption
      case a2 => k_mem
      case a3 => k_mem
      case a4 => k_mem
      case a5 => rw [show lenRow num (.int k tkL) b.size = [.tuple [.str "length", .int num, .str (msgLen k b.size)]] from if_neg (by omega)]; k_extra "DATS"
      case a6 => k_extra "zA"
    · (with_reducible refine retP_splC (C := [(p, o), (T, _), (D, _)]) (fr := fr) (by assumption) (by assumption) (by k_extra "SPLT") ?_)
      refine' ⟨_, _, _, _, _, _, _, _, _, _, [], _, ?e, ?a1, ?a2, ?a3, ?a4, ?a5, ?a6⟩
      case e => rw [List.append_nil]; rfl
      case a1 => assumption
      case a2 => k_mem
      case a3 => k_mem
      case a4 => k_mem
      case a5 => rw [show lenRow num (.int k tkL) b.size = [] from if_pos (by omega)]; exact .nil
      case a6 => k_extra "zA"
  )
  k_extra "GG"
def StreamOk (num : Int) (es : List (Str × PV)) (b : Array UInt8) (rows : List Dat) : Prop :=
  b.size ≤ 7 ∧ ((∃ k, 0 ≤ k ∧ k ≤ 9 ∧ es = [((Str.ofString "Length", .int k) : Str × PV)] ∧ rows = lenRow num (.int k 0) b.size) ∨ (es = [((Str.ofString "Length", .name "Length") : Str × PV)] ∧ rows = lenRow num .none b.size) ∨ (es = [((Str.ofString "Length", .ref 30 0) : Str × PV)] ∧ rows = lenRow num (.int 3 0) b.size) ∨ (es = [] ∧ rows = lenRow num .none b.size))
inductive OctPost (w : World) (p c T D : Addr) (o oT : Obj) (fr : List (Addr × Obj)) (N num : Int) (kvs : List (Int × Value)) (ds : List Value) (nD : Nat) (r : Value) (news' : List (Addr × Obj)) : Prop
  | mk : ∀ o' oT' tl t u nT st es b add rows nD', news' = (p, o') :: (T, oT') :: (D, listOf (ds ++ add).toArray nD') :: (tl ++ fr) → PenInv c (N + 2) o' → oT'.IsDictOf (PySem.intKind PG w) (stored kvs num (.ref t)) → (t, ({ cls := .type "tuple", data := .seq #[.int 0 u, .ref st] nT } : Obj)) ∈ tl → VIn w tl (.ref st) (.stream es b) → DatAll tl add rows → StreamOk num es b rows → Apart ((p, o) :: (T, oT) :: (D, listOf ds.toArray nD) :: fr) tl → OctPost w p c T D o oT fr N num kvs ds nD r news'
theorem octets_ok (w : World) (p c S T TR D : Addr) (o oc oT : Obj) (fr : List (Addr × Obj)) (N num : Int) (tn : Tok) (kvs : List (Int × Value)) (ds : List Value) (nD : Nat) (hC : PenC p c oc) (hc : (c, oc) ∈ fr) (hfp : ∀ q ∈ fr, q.1 ≠ p) (hfT : ∀ q ∈ fr, q.1 ≠ T) (hfD : ∀ q ∈ fr, q.1 ≠ D) (hpT : p ≠ T) (hpD : p ≠ D) (hTD : T ≠ D)
    (hS : ShelfAt w fr S T TR) (hT : oT.IsDictOf (PySem.intKind PG w) kvs) (hkl : kvs.length ≤ 1000) (hdl : ds.length ≤ 1000) (ho : PenInv c N o) (hN : N ≤ 90000) (hn0 : 0 ≤ num) (hn1 : num ≤ 100) :
    CallC w 472 10 60 [.ref p, .ref S, .int num tn, .ref D] ((p, o) :: (T, oT) :: (D, listOf ds.toArray nD) :: fr) (OctPost w p c T D o oT fr N num kvs ds nD) := by
  (k_with "GO" =>
  have hS0 := hS
  ((k_extra "V1"; obtain ⟨sd, tS, tS', nS, hS1, hS2⟩ := hS) <;> k_extra "V2")
  refine enterC (dc := 9) (uc := 57) (binds := [("pen", .ref p), ("shelf", .ref S), ("number", .int num tn), ("due", .ref D)]) (look_472 _) (code_472 _) (fun s _ => BindsTo.of_eq rfl) (locs rfl) rfl rfl rfl (by decide) ?_
  intro dp un gd outer A₀ base g mean mg mb L s B F X N' T' hd hu
  dsimp only [F472]
  repeat' (k_extra "zS"; (fail_if_success (with_reducible show wpAny _ _ (execs (Stmt.Expr _ _ :: _) _) _ _ _)); first | k_extra "zP" | ((with_reducible show wpAny _ _ (subscriptTail _ _ (Value.ref _) (Value.int _ _)) _ _ _); refine item_menu (News.isList (by k_asm) (by k_mem)) (by omega) (by simp only [List.length_cons, List.length_nil]; omega) (by simp only [List.length_cons, List.length_nil]; omega) ?_; intro vm hvm; first | (obtain ⟨bm, tbm, rfl, hbm⟩ := menu_bytes hvm (by decide) (by decide) (by decide) (by decide)) | (obtain ⟨nm, tnm, rfl, hnm0, hnm1⟩ := menu_ints hvm (by decide) (by decide) (by decide))) | k_extra "zQ")
  all_goals
    with_reducible show wpAny _ _ (execs (Stmt.Expr _ _ :: _) _) _ _ _
    rename (News _ _ _ _) => N9
    have N8 := news_spl3 (a := (p, _)) (b := (T, _)) (c := (D, _)) (fr := fr) N9 (by repeat (first | exact splC3 | apply SplC.cons | apply SplC.app))
    refine wpAny_mono (octets_tail w p S T TR D _ _ _ _ num tn _ bm _ kvs ds nD ?f1 ?f2 ?f3 hpT hpD hTD ?f4 hT hkl hdl hn0 hn1 hbm ?f5 (by k_asm) (by k_asm) (by k_asm) N8 (by k_asm) hd hu rfl rfl rfl rfl rfl rfl) (fun fl s' hr => RetP.mono rfl hr fun v n => ?cv) (fun _ _ e => e)
    case f1 => k_all
    case f2 => k_all
    case f3 => k_all
    case f4 => exact ⟨sd, tS, tS', nS, List.mem_append_right _ hS1, List.mem_append_right _ hS2⟩
    case f5 => first | exact Or.inl rfl | exact Or.inr ⟨_, _, rfl, by omega, by omega⟩
    case cv =>
      intro z0_
      ((k_extra "V1"; obtain ⟨oT', tl, t, u, nT, st, sx, ts, tsh, nS, add, nD', rfl, g1, g2, g3, g4, g5, g6⟩ := z0_) <;> k_extra "V2")
      refine' ⟨_, oT', tl ++ _, t, u, nT, st, _, bm, add, _, nD', ?e, ?pn, g1, List.mem_append_left _ g2, ?v, g5.mono fun _ hq => List.mem_append_left _ hq, ?ok, ?ap⟩
      case e => exact congrArg (fun z => _ :: _ :: _ :: z) (List.append_assoc tl _ fr).symm
      case pn => exact pen_mono (by with_reducible assumption) (by omega)
      case v => exact VIn.stream (List.mem_append_left _ g3) (List.mem_append_left _ g4) (List.mem_append_right _ (by k_mem)) (by assumption) (by assumption) (by k_extra "VES")
      case ok => first | exact ⟨hbm, Or.inl ⟨_, by omega, by omega, rfl, rfl⟩⟩ | exact ⟨hbm, Or.inr (Or.inl ⟨rfl, rfl⟩)⟩ | exact ⟨hbm, Or.inr (Or.inr (Or.inl ⟨rfl, rfl⟩))⟩ | exact ⟨hbm, Or.inr (Or.inr (Or.inr ⟨rfl, rfl⟩))⟩ | (exfalso; omega)
      case ap => exact (Apart.lcons (g6.ne (d := p) (by k_mem)) (Apart.lcons (g6.ne (d := T) (by k_mem)) (Apart.lcons (g6.ne (d := D) (by k_mem)) (fun q hq => g6 q (by k_mem))))).app (by k_extra "zA")
  )
  k_extra "GG"
def kindD : PV → Str
  | .none => "null" | .bool _ => "truth" | .int _ => "int" | .dec _ _ => "real" | .name _ => "name" | .string _ => "string" | .arr _ => "array" | .dict _ => "dict" | .stream _ _ => "stream" | .ref _ _ => "ref"
def KindPost (d : PV) (news : List (Addr × Obj)) (r : Value) (news' : List (Addr × Obj)) : Prop := (∃ t, r = .str (kindD d) t) ∧ ∀ q ∈ news, q ∈ news'
theorem kind_body (w : World) (v : Value) (d : PV) (news : List (Addr × Obj)) (h : BodyC w 260 "kind_of" F260.1.2.2 F260.1.2.1 (.ref 259) 1 3 [("value", v)] news (KindPost d news)) : CallC w 260 2 6 [v] news (KindPost d news) :=
  enterC (dc := 1) (uc := 3) (binds := [("value", v)]) (look_260 _) (code_260 _) (fun s _ => BindsTo.of_eq rfl) (locs rfl) rfl rfl rfl (by decide) h
section kind
variable {w : World} {dp un : Nat} {gd : Option (List Code)} {outer : List Env} {A₀ : Around} {base g : Heap} {mean : ExcName → Option Value} {mg mb : Str → Option Value} {L : Addr} {s : Shared} {m : Str → Option Value} {news : List (Addr × Obj)}
theorem isi_skip {C : Str} {cv v : Value} {p1 p2 p3 p4 p5 : Pos} {body rest : List Stmt} {Q : Flow → Shared → Prop} {E : Value → Shared → Prop}
    (B : Below A₀ base outer g) (F : Fr g L s.heap m) (X : (K w.params).In g) (N : News g L s.heap news) (T : TopV mean mg mb g) (hm : m "value" = some v)
    (hX : ∀ (Q' : Value → Shared → Prop) (s' : Shared), Fr g L s'.heap m → Q' cv s' → wpAny (model PG w) (ktrTop dp un gd "kind_of" F260.1.2.2 L 260 (.ref 259) [] outer) (eval (.Name C p3) (envOf "kind_of" F260.1.2.2 L 260 (.ref 259))) Q' E s')
    (hI : ∀ (Q' : Value → Shared → Prop) (s' : Shared), Fr g L s'.heap m → News g L s'.heap news → (∀ tk', Q' (.bool false) { s' with toks := tk' }) → wpAny (model PG w) (ktrTop dp un gd "kind_of" F260.1.2.2 L 260 (.ref 259) [] outer) (call (.builtin "isinstance") [v, cv]) Q' E s')
    (h : ∀ tk', wpAny (model PG w) (ktrTop dp un gd "kind_of" F260.1.2.2 L 260 (.ref 259) [] outer) (execs rest (envOf "kind_of" F260.1.2.2 L 260 (.ref 259))) Q E { s with toks := tk' }) :
    wpAny (model PG w) (ktrTop dp un gd "kind_of" F260.1.2.2 L 260 (.ref 259) [] outer) (execs (Stmt.If (.Call (.Name "isinstance" p1) [.Name "value" p2, .Name C p3] [] p4) body [] p5 :: rest) (envOf "kind_of" F260.1.2.2 L 260 (.ref 259))) Q E s := by
  (k_with "GO" =>
  dsimp only [F260] at *
  repeat' (k_extra "zS"; first | k_extra "zP" | ((with_reducible refine hX _ _ ?_ ?_); (focus k_asm)) | ((with_reducible refine hI _ _ ?_ ?_ ?_); (focus k_asm); (focus k_asm); intro tkI) | k_extra "zM" | (exact h _) | k_extra "zQ")
  )
  k_extra "GG"
end kind
theorem kind_none (w : World)  (news : List (Addr × Obj))  : CallC w 260 2 6 [.none] news (KindPost (.none) news) := by
  (k_with "GO" =>
  refine kind_body w _ _ _ ?_
  intro dp un gd outer A₀ base g mean mg mb L s B F X N' T' hd hu
  dsimp only [F260]
  repeat' (k_extra "zS"; first | k_extra "zP" | ((with_reducible show wpAny _ _ (execs (Stmt.If (PySem.Expr.Call _ _ _ _) _ _ _ :: _) _) _ _ _); (with_reducible refine isi_skip (by k_asm) (by k_asm) (by k_asm) (by k_asm) (by k_asm) (by with_unfolding_all rfl) (by intro Q' s' F1 hq; walk1; exact hq) (by intro Q' s' F1 N1 hq; walk1; exact hq _) ?_); intro tkS) | k_extra "zQ")
  exact RetP.intro (by assumption) (by assumption) ⟨⟨_, rfl⟩, fun q hq => hq⟩
  )
  k_extra "GG"
theorem kind_bool (w : World) (b : Bool) (news : List (Addr × Obj))  : CallC w 260 2 6 [.bool b] news (KindPost (.bool b) news) := by
  (k_with "GO" =>
  refine kind_body w _ _ _ ?_
  intro dp un gd outer A₀ base g mean mg mb L s B F X N' T' hd hu
  dsimp only [F260]
  repeat' (k_extra "zS"; first | k_extra "zP" | ((with_reducible show wpAny _ _ (execs (Stmt.If (PySem.Expr.Call _ _ _ _) _ _ _ :: _) _) _ _ _); (with_reducible refine isi_skip (by k_asm) (by k_asm) (by k_asm) (by k_asm) (by k_asm) (by with_unfolding_all rfl) (by intro Q' s' F1 hq; walk1; exact hq) (by intro Q' s' F1 N1 hq; walk1; exact hq _) ?_); intro tkS) | k_extra "zQ")
  exact RetP.intro (by assumption) (by assumption) ⟨⟨_, rfl⟩, fun q hq => hq⟩
  )
  k_extra "GG"
theorem kind_int (w : World) (i : Int) (t : Tok) (news : List (Addr × Obj))  : CallC w 260 2 6 [.int i t] news (KindPost (.int i) news) := by
  (k_with "GO" =>
  refine kind_body w _ _ _ ?_
  intro dp un gd outer A₀ base g mean mg mb L s B F X N' T' hd hu
  dsimp only [F260]
  repeat' (k_extra "zS"; first | k_extra "zP" | ((with_reducible show wpAny _ _ (execs (Stmt.If (PySem.Expr.Call _ _ _ _) _ _ _ :: _) _) _ _ _); (with_reducible refine isi_skip (by k_asm) (by k_asm) (by k_asm) (by k_asm) (by k_asm) (by with_unfolding_all rfl) (by intro Q' s' F1 hq; walk1; exact hq) (by intro Q' s' F1 N1 hq; walk1; exact hq _) ?_); intro tkS) | k_extra "zQ")
  exact RetP.intro (by assumption) (by assumption) ⟨⟨_, rfl⟩, fun q hq => hq⟩
  )
  k_extra "GG"
theorem kind_dec (w : World) (a d : Addr) (x y : Int) (t u t' u' : Tok) (n : Nat) (news : List (Addr × Obj)) (h1 : (a, instObj 150 d) ∈ news) (h2 : (d, dictOf [ent w "top" t (.int x u), ent w "places" t' (.int y u')] n) ∈ news) : CallC w 260 2 6 [.ref a] news (KindPost (.dec x y) news) := by
  (k_with "GO" =>
  refine kind_body w _ _ _ ?_
  intro dp un gd outer A₀ base g mean mg mb L s B F X N' T' hd hu
  dsimp only [F260]
  repeat' (k_extra "zS"; first | k_extra "zP" | ((with_reducible show wpAny _ _ (execs (Stmt.If (PySem.Expr.Call _ _ _ _) _ _ _ :: _) _) _ _ _); (with_reducible refine isi_skip (by k_asm) (by k_asm) (by k_asm) (by k_asm) (by k_asm) (by with_unfolding_all rfl) (by intro Q' s' F1 hq; walk1; exact hq) (by intro Q' s' F1 N1 hq; walk1; exact hq _) ?_); intro tkS) | k_extra "zQ")
  exact RetP.intro (by assumption) (by assumption) ⟨⟨_, rfl⟩, fun q hq => hq⟩
  )
  k_extra "GG"
theorem kind_name (w : World) (a d : Addr) (x : Str) (t u : Tok) (n : Nat) (news : List (Addr × Obj)) (h1 : (a, instObj 178 d) ∈ news) (h2 : (d, dictOf [ent w "text" t (.str x u)] n) ∈ news) : CallC w 260 2 6 [.ref a] news (KindPost (.name x) news) := by
  (k_with "GO" =>
  refine kind_body w _ _ _ ?_
  intro dp un gd outer A₀ base g mean mg mb L s B F X N' T' hd hu
  dsimp only [F260]
  repeat' (k_extra "zS"; first | k_extra "zP" | ((with_reducible show wpAny _ _ (execs (Stmt.If (PySem.Expr.Call _ _ _ _) _ _ _ :: _) _) _ _ _); (with_reducible refine isi_skip (by k_asm) (by k_asm) (by k_asm) (by k_asm) (by k_asm) (by with_unfolding_all rfl) (by intro Q' s' F1 hq; walk1; exact hq) (by intro Q' s' F1 N1 hq; walk1; exact hq _) ?_); intro tkS) | k_extra "zQ")
  exact RetP.intro (by assumption) (by assumption) ⟨⟨_, rfl⟩, fun q hq => hq⟩
  )
  k_extra "GG"
theorem kind_string (w : World) (a d : Addr) (b : Array UInt8) (t u t' : Tok) (n : Nat) (news : List (Addr × Obj)) (h1 : (a, instObj 200 d) ∈ news) (h2 : (d, dictOf [ent w "octets" t (.bytes b u), ent w "is_hex" t' (.bool false)] n) ∈ news) : CallC w 260 2 6 [.ref a] news (KindPost (.string b) news) := by
  (k_with "GO" =>
  refine kind_body w _ _ _ ?_
  intro dp un gd outer A₀ base g mean mg mb L s B F X N' T' hd hu
  dsimp only [F260]
  repeat' (k_extra "zS"; first | k_extra "zP" | ((with_reducible show wpAny _ _ (execs (Stmt.If (PySem.Expr.Call _ _ _ _) _ _ _ :: _) _) _ _ _); (with_reducible refine isi_skip (by k_asm) (by k_asm) (by k_asm) (by k_asm) (by k_asm) (by with_unfolding_all rfl) (by intro Q' s' F1 hq; walk1; exact hq) (by intro Q' s' F1 N1 hq; walk1; exact hq _) ?_); intro tkS) | k_extra "zQ")
  exact RetP.intro (by assumption) (by assumption) ⟨⟨_, rfl⟩, fun q hq => hq⟩
  )
  k_extra "GG"
theorem kind_arr (w : World) (a : Addr) (vs : List Value) (n : Nat) (ds : List PV) (news : List (Addr × Obj)) (h1 : (a, listOf vs.toArray n) ∈ news) : CallC w 260 2 6 [.ref a] news (KindPost (.arr ds) news) := by
  (k_with "GO" =>
  refine kind_body w _ _ _ ?_
  intro dp un gd outer A₀ base g mean mg mb L s B F X N' T' hd hu
  dsimp only [F260]
  repeat' (k_extra "zS"; first | k_extra "zP" | ((with_reducible show wpAny _ _ (execs (Stmt.If (PySem.Expr.Call _ _ _ _) _ _ _ :: _) _) _ _ _); (with_reducible refine isi_skip (by k_asm) (by k_asm) (by k_asm) (by k_asm) (by k_asm) (by with_unfolding_all rfl) (by intro Q' s' F1 hq; walk1; exact hq) (by intro Q' s' F1 N1 hq; walk1; exact hq _) ?_); intro tkS) | k_extra "zQ")
  exact RetP.intro (by assumption) (by assumption) ⟨⟨_, rfl⟩, fun q hq => hq⟩
  )
  k_extra "GG"
theorem kind_dict0 (w : World) (a : Addr) (ens : List DictEntry) (n : Nat) (es : List (Str × PV)) (news : List (Addr × Obj)) (h1 : (a, dictOf ens n) ∈ news) : CallC w 260 2 6 [.ref a] news (KindPost (.dict es) news) := by
  (k_with "GO" =>
  refine kind_body w _ _ _ ?_
  intro dp un gd outer A₀ base g mean mg mb L s B F X N' T' hd hu
  dsimp only [F260]
  repeat' (k_extra "zS"; first | k_extra "zP" | ((with_reducible show wpAny _ _ (execs (Stmt.If (PySem.Expr.Call _ _ _ _) _ _ _ :: _) _) _ _ _); (with_reducible refine isi_skip (by k_asm) (by k_asm) (by k_asm) (by k_asm) (by k_asm) (by with_unfolding_all rfl) (by intro Q' s' F1 hq; walk1; exact hq) (by intro Q' s' F1 N1 hq; walk1; exact hq _) ?_); intro tkS) | k_extra "zQ")
  exact RetP.intro (by assumption) (by assumption) ⟨⟨_, rfl⟩, fun q hq => hq⟩
  )
  k_extra "GG"
theorem kind_stream (w : World) (a d : Addr) (x : Addr) (b : Array UInt8) (t u t' : Tok) (es : List (Str × PV)) (n : Nat) (news : List (Addr × Obj)) (h1 : (a, instObj 221 d) ∈ news) (h2 : (d, dictOf [ent w "head" t (.ref x), ent w "octets" t' (.bytes b u)] n) ∈ news) : CallC w 260 2 6 [.ref a] news (KindPost (.stream es b) news) := by
  (k_with "GO" =>
  refine kind_body w _ _ _ ?_
  intro dp un gd outer A₀ base g mean mg mb L s B F X N' T' hd hu
  dsimp only [F260]
  repeat' (k_extra "zS"; first | k_extra "zP" | ((with_reducible show wpAny _ _ (execs (Stmt.If (PySem.Expr.Call _ _ _ _) _ _ _ :: _) _) _ _ _); (with_reducible refine isi_skip (by k_asm) (by k_asm) (by k_asm) (by k_asm) (by k_asm) (by with_unfolding_all rfl) (by intro Q' s' F1 hq; walk1; exact hq) (by intro Q' s' F1 N1 hq; walk1; exact hq _) ?_); intro tkS) | k_extra "zQ")
  exact RetP.intro (by assumption) (by assumption) ⟨⟨_, rfl⟩, fun q hq => hq⟩
  )
  k_extra "GG"
theorem kind_ref (w : World) (a d : Addr) (x y : Int) (t u t' u' : Tok) (n : Nat) (news : List (Addr × Obj)) (h1 : (a, instObj 249 d) ∈ news) (h2 : (d, dictOf [ent w "number" t (.int x u), ent w "generation" t' (.int y u')] n) ∈ news) : CallC w 260 2 6 [.ref a] news (KindPost (.ref x y) news) := by
  (k_with "GO" =>
  refine kind_body w _ _ _ ?_
  intro dp un gd outer A₀ base g mean mg mb L s B F X N' T' hd hu
  dsimp only [F260]
  repeat' (k_extra "zS"; first | k_extra "zP" | ((with_reducible show wpAny _ _ (execs (Stmt.If (PySem.Expr.Call _ _ _ _) _ _ _ :: _) _) _ _ _); (with_reducible refine isi_skip (by k_asm) (by k_asm) (by k_asm) (by k_asm) (by k_asm) (by with_unfolding_all rfl) (by intro Q' s' F1 hq; walk1; exact hq) (by intro Q' s' F1 N1 hq; walk1; exact hq _) ?_); intro tkS) | k_extra "zQ")
  exact RetP.intro (by assumption) (by assumption) ⟨⟨_, rfl⟩, fun q hq => hq⟩
  )
  k_extra "GG"
theorem kind_ok (w : World) {v : Value} {d : PV} {news : List (Addr × Obj)} (h : VIn w news v d) : CallC w 260 2 6 [v] news (KindPost d news) := by
  k_extra "V0"
  cases h with
  | none => k_extra "V2"; exact kind_none w news
  | bool b => k_extra "V2"; exact kind_bool w b news
  | int i t => k_extra "V2"; exact kind_int w i t news
  | name h1 h2 => k_extra "V2"; exact kind_name w _ _ _ _ _ _ news h1 h2
  | string h1 h2 => k_extra "V2"; exact kind_string w _ _ _ _ _ _ _ news h1 h2
  | dec h1 h2 => k_extra "V2"; exact kind_dec w _ _ _ _ _ _ _ _ _ news h1 h2
  | ref h1 h2 => k_extra "V2"; exact kind_ref w _ _ _ _ _ _ _ _ _ news h1 h2
  | arr h1 h2 => k_extra "V2"; exact kind_arr w _ _ _ _ news h1
  | dict h1 h2 h3 h4 => k_extra "V2"; obtain ⟨es, n, rfl⟩ := dict_shape h2; exact kind_dict0 w _ _ _ _ news h1
  | stream h1 h2 h3 h4 h5 h6 => k_extra "V2"; exact kind_stream w _ _ _ _ _ _ _ _ _ news h1 h2
theorem kind_use {w : World} {v : Value} {d : PV} {dp un : Nat} {gd : Option (List Code)} {cn : Str} {cs : Scope} {a : Addr} {ccd : Value} {cl : List (Str × Addr)} {outer : List Env} {A₀ : Around} {base h₀ : Heap} {mean : ExcName → Option Value} {mg mb : Str → Option Value} {L : Addr} {m : Str → Option Value} {s : Shared} {Q E : Value → Shared → Prop} {news : List (Addr × Obj)}
    (B : Below A₀ base outer h₀) (F : Fr h₀ L s.heap m) (X : (K w.params).In h₀) (N : News h₀ L s.heap news) (T' : TopV mean mg mb h₀) (hk : cs.kind = .function) (hd : dp + 3 < recursionLimit) (hu : un + 30 < cLine) (h : VIn w news v d)
    (ret : ∀ t h' tk', Fr h₀ L h' m → News h₀ L h' news → Q (.str (kindD d) t) { s with heap := h', toks := tk' }) :
    wpAny (model PG w) (ktrTop dp un gd cn cs L a ccd cl outer) (call (.ref 260) [v]) Q E s := by
  refine (kind_ok w h).use B F X N T' (fun p hp => hp) hk (by omega) (by omega) ?_
  intro r news' h' tk' F2 N2 z6_
  ((k_extra "V1"; obtain ⟨⟨t, rfl⟩, h1⟩ := z6_) <;> k_extra "V2")
  exact ret t h' tk' F2 (fun q hq => N2 q (h1 q hq))
theorem lk_bytes_bytes : typeLookup (.type "bytes") "__bytes__" = pure (some (.builtin "bytes.__bytes__")) := by rw [typeLookup_type, builtinLookup_eq_fast]; kernel_rfl
section
variable {prog : Program} {w : World} {A : Around} {E : Value → Shared → Prop} {s : Shared}
theorem bb_new {b : Array UInt8} {u : Tok} {Q : Value → Shared → Prop} (hQ : Q (.bytes b u) s) :
    codeAny (model prog w) A (.call (.builtin "bytes.__new__") ⟨[.type "bytes", .bytes b u], []⟩) (wants Q E) s := by
  refine codeAny_of_tree ?_
  show wpAny _ A.in1 (do checkBuiltinCall "bytes.__new__" ⟨[.type "bytes", .bytes b u], []⟩; again (.builtin "bytes.__new__" ⟨[.type "bytes", .bytes b u], []⟩)) _ _ s
  refine wpAny_bind (wpAny_of_eq (PySem.F.bm_newCall _) (wpAny_pure ⟨plainId_quiet PySem.F.bm_plain _, codeAny_builtin PySem.F.bm_entry ?_⟩))
  rw [Around.under_plainId PySem.F.bm_plain _]
  have hT : s.TypeIs (.bytes b u) "bytes" := by trivial
  unfold Builtin.«bytes.__new__»
  refine wpAny_bind (wpAny_of_eq (a := true) rfl ?_)
  refine bm_if_false rfl ?_
  refine wpAny_bind (wpAny_of_eq PySem.F.bm_sub ?_)
  refine bm_if_false rfl ?_
  refine wpAny_bind (wpAny_of_eq (PySem.F.bm_bind _) ?_)
  refine wpAny_bind (wpAny_of_eq (a := ()) rfl ?_)
  refine wpAny_bind (wpAny_of_eq (a := ()) rfl ?_)
  refine bm_if_false rfl ?_
  refine wpAny_bind (wpAny_specialOf hT lk_bytes_bytes ?_)
  dsimp only
  refine wpAny_bind (wpAny_rule ?_)
  refine wpAny_bind (wpAny_typeOf hT ?_)
  rw [if_pos (by decide)]
  show wpAny _ _ (pure (PySem.Fin.done (.ret (Value.bytes b u)))) _ _ _
  exact wpAny_pure hQ
theorem bytes_of_bytes {b : Array UInt8} {u : Tok} {Q : Value → Shared → Prop} (hQ : Q (.bytes b u) s) : wpAny (model prog w) A (call (.type "bytes") [.bytes b u]) Q E s := by
  refine callType_codes (Q₁ := fun obj s₁ => s₁.TypeIs obj "bytes" ∧ Q obj s₁) PySem.F.bm_called (PySem.F.bm_typeCall _) PySem.F.entry_object_init
    (bb_new ⟨PySem.W.typeIs_bytes _ _ _, hQ⟩) fun obj s₁ h₁ => ?_
  exact ⟨h₁.1, PySem.F.args_object_init_2 obj _, object_init_meets PySem.F.bm_called.init.lookup PySem.F.bm_called.made (by decide) prog w A.in1 _ s₁ ⟨h₁.1, rfl, h₁.2⟩⟩
end
inductive PlainPost (d : Dat) (news : List (Addr × Obj)) (r : Value) (news' : List (Addr × Obj)) : Prop
  | mk : ∀ tl, (∀ q ∈ tl ++ news, q ∈ news') → DatIn tl r d → Apart news tl → PlainPost d news r news'
theorem plain_body (w : World) (k : Str) (tk : Tok) (v : Value) (d : Dat) (news : List (Addr × Obj)) (h : BodyC w 267 "told_plain" F267.1.2.2 F267.1.2.1 (.ref 266) 1 3 [("kind", .str k tk), ("value", v)] news (PlainPost d news)) : CallC w 267 2 6 [.str k tk, v] news (PlainPost d news) :=
  enterC (dc := 1) (uc := 3) (binds := [("kind", .str k tk), ("value", v)]) (look_267 _) (code_267 _) (fun s _ => BindsTo.of_eq rfl) (locs rfl) rfl rfl rfl (by decide) h
section plain
variable {w : World} {dp un : Nat} {gd : Option (List Code)} {outer : List Env} {g : Heap} {L : Addr} {s : Shared} {m : Str → Option Value}
theorem eq_skip {k k' : Str} {tk : Tok} {p1 p2 p3 p4 : Pos} {body rest : List Stmt} {Q : Flow → Shared → Prop} {E : Value → Shared → Prop}
    (F : Fr g L s.heap m) (hm : m "kind" = some (.str k tk)) (hne : (k == k') = false)
    (h : ∀ tk', wpAny (model PG w) (ktrTop dp un gd "told_plain" F267.1.2.2 L 267 (.ref 266) [] outer) (execs rest (envOf "told_plain" F267.1.2.2 L 267 (.ref 266))) Q E { s with toks := tk' }) :
    wpAny (model PG w) (ktrTop dp un gd "told_plain" F267.1.2.2 L 267 (.ref 266) [] outer) (execs (Stmt.If (.Compare (.Name "kind" p1) [.Eq] [.Constant (.str k') 0 p2] p3) body [] p4 :: rest) (envOf "told_plain" F267.1.2.2 L 267 (.ref 266))) Q E s := by
  (k_with "GO" =>
  dsimp only [F267] at *
  repeat' (k_extra "zS"; first | k_extra "zP" | k_extra "zM" | (exact h _) | ((with_reducible show ite _ _ _); rw [if_neg (by simp_all)]) | k_extra "zQ")
  )
  k_extra "GG"
end plain
theorem plain_none (w : World) (tk : Tok)  (news : List (Addr × Obj))  : CallC w 267 2 6 [.str "null" tk, .none] news (PlainPost (.tuple [.str "null"]) news) := by
  (k_with "GO" =>
  refine plain_body w _ _ _ _ _ ?_
  intro dp un gd outer A₀ base g mean mg mb L s B F X N' T' hd hu
  dsimp only [F267]
  repeat' (k_extra "zS"; first | k_extra "zP" | k_extra "BYTESR" | ((with_reducible show wpAny _ _ (execs (Stmt.If (PySem.Expr.Compare _ _ _ _) _ _ _ :: _) _) _ _ _); (with_reducible refine eq_skip (by k_asm) (by with_unfolding_all rfl) (by decide +kernel) ?_); intro tkS) | k_extra "zQ")
  all_goals (refine RetP.intro (by assumption) (by assumption) ⟨[(_, _)], fun q hq => hq, ?d, ?a⟩; (case d => k_extra "DAT"); (case a => k_extra "zA"))
  )
  k_extra "GG"
theorem plain_true (w : World) (tk : Tok)  (news : List (Addr × Obj))  : CallC w 267 2 6 [.str "truth" tk, .bool true] news (PlainPost (.tuple [.str "truth", .int 1]) news) := by
  (k_with "GO" =>
  refine plain_body w _ _ _ _ _ ?_
  intro dp un gd outer A₀ base g mean mg mb L s B F X N' T' hd hu
  dsimp only [F267]
  repeat' (k_extra "zS"; first | k_extra "zP" | k_extra "BYTESR" | ((with_reducible show wpAny _ _ (execs (Stmt.If (PySem.Expr.Compare _ _ _ _) _ _ _ :: _) _) _ _ _); (with_reducible refine eq_skip (by k_asm) (by with_unfolding_all rfl) (by decide +kernel) ?_); intro tkS) | k_extra "zQ")
  all_goals (refine RetP.intro (by assumption) (by assumption) ⟨[(_, _)], fun q hq => hq, ?d, ?a⟩; (case d => k_extra "DAT"); (case a => k_extra "zA"))
  )
  k_extra "GG"
theorem plain_false (w : World) (tk : Tok)  (news : List (Addr × Obj))  : CallC w 267 2 6 [.str "truth" tk, .bool false] news (PlainPost (.tuple [.str "truth", .int 0]) news) := by
  (k_with "GO" =>
  refine plain_body w _ _ _ _ _ ?_
  intro dp un gd outer A₀ base g mean mg mb L s B F X N' T' hd hu
  dsimp only [F267]
  repeat' (k_extra "zS"; first | k_extra "zP" | k_extra "BYTESR" | ((with_reducible show wpAny _ _ (execs (Stmt.If (PySem.Expr.Compare _ _ _ _) _ _ _ :: _) _) _ _ _); (with_reducible refine eq_skip (by k_asm) (by with_unfolding_all rfl) (by decide +kernel) ?_); intro tkS) | k_extra "zQ")
  all_goals (refine RetP.intro (by assumption) (by assumption) ⟨[(_, _)], fun q hq => hq, ?d, ?a⟩; (case d => k_extra "DAT"); (case a => k_extra "zA"))
  )
  k_extra "GG"
theorem plain_int (w : World) (tk : Tok) (i : Int) (t : Tok) (news : List (Addr × Obj))  : CallC w 267 2 6 [.str "int" tk, .int i t] news (PlainPost (.tuple [.str "int", .int i]) news) := by
  (k_with "GO" =>
  refine plain_body w _ _ _ _ _ ?_
  intro dp un gd outer A₀ base g mean mg mb L s B F X N' T' hd hu
  dsimp only [F267]
  repeat' (k_extra "zS"; first | k_extra "zP" | k_extra "BYTESR" | ((with_reducible show wpAny _ _ (execs (Stmt.If (PySem.Expr.Compare _ _ _ _) _ _ _ :: _) _) _ _ _); (with_reducible refine eq_skip (by k_asm) (by with_unfolding_all rfl) (by decide +kernel) ?_); intro tkS) | k_extra "zQ")
  all_goals (refine RetP.intro (by assumption) (by assumption) ⟨[(_, _)], fun q hq => hq, ?d, ?a⟩; (case d => k_extra "DAT"); (case a => k_extra "zA"))
  )
  k_extra "GG"
theorem plain_dec (w : World) (tk : Tok) (a d : Addr) (x y : Int) (t u t' u' : Tok) (n : Nat) (news : List (Addr × Obj)) (h1 : (a, instObj 150 d) ∈ news) (h2 : (d, dictOf [ent w "top" t (.int x u), ent w "places" t' (.int y u')] n) ∈ news) : CallC w 267 2 6 [.str "real" tk, .ref a] news (PlainPost (.tuple [.str "real", .int x, .int y]) news) := by
  (k_with "GO" =>
  refine plain_body w _ _ _ _ _ ?_
  intro dp un gd outer A₀ base g mean mg mb L s B F X N' T' hd hu
  dsimp only [F267]
  repeat' (k_extra "zS"; first | k_extra "zP" | k_extra "BYTESR" | ((with_reducible show wpAny _ _ (execs (Stmt.If (PySem.Expr.Compare _ _ _ _) _ _ _ :: _) _) _ _ _); (with_reducible refine eq_skip (by k_asm) (by with_unfolding_all rfl) (by decide +kernel) ?_); intro tkS) | k_extra "zQ")
  all_goals (refine RetP.intro (by assumption) (by assumption) ⟨[(_, _)], fun q hq => hq, ?d, ?a⟩; (case d => k_extra "DAT"); (case a => k_extra "zA"))
  )
  k_extra "GG"
theorem plain_name (w : World) (tk : Tok) (a d : Addr) (x : Str) (t u : Tok) (n : Nat) (news : List (Addr × Obj)) (h1 : (a, instObj 178 d) ∈ news) (h2 : (d, dictOf [ent w "text" t (.str x u)] n) ∈ news) : CallC w 267 2 6 [.str "name" tk, .ref a] news (PlainPost (.tuple [.str "name", .str x]) news) := by
  (k_with "GO" =>
  refine plain_body w _ _ _ _ _ ?_
  intro dp un gd outer A₀ base g mean mg mb L s B F X N' T' hd hu
  dsimp only [F267]
  repeat' (k_extra "zS"; first | k_extra "zP" | k_extra "BYTESR" | ((with_reducible show wpAny _ _ (execs (Stmt.If (PySem.Expr.Compare _ _ _ _) _ _ _ :: _) _) _ _ _); (with_reducible refine eq_skip (by k_asm) (by with_unfolding_all rfl) (by decide +kernel) ?_); intro tkS) | k_extra "zQ")
  all_goals (refine RetP.intro (by assumption) (by assumption) ⟨[(_, _)], fun q hq => hq, ?d, ?a⟩; (case d => k_extra "DAT"); (case a => k_extra "zA"))
  )
  k_extra "GG"
theorem plain_string (w : World) (tk : Tok) (a d : Addr) (b : Array UInt8) (t u t' : Tok) (n : Nat) (news : List (Addr × Obj)) (h1 : (a, instObj 200 d) ∈ news) (h2 : (d, dictOf [ent w "octets" t (.bytes b u), ent w "is_hex" t' (.bool false)] n) ∈ news) : CallC w 267 2 6 [.str "string" tk, .ref a] news (PlainPost (.tuple [.str "string", .bytes b]) news) := by
  (k_with "GO" =>
  refine plain_body w _ _ _ _ _ ?_
  intro dp un gd outer A₀ base g mean mg mb L s B F X N' T' hd hu
  dsimp only [F267]
  repeat' (k_extra "zS"; first | k_extra "zP" | k_extra "BYTESR" | ((with_reducible show wpAny _ _ (execs (Stmt.If (PySem.Expr.Compare _ _ _ _) _ _ _ :: _) _) _ _ _); (with_reducible refine eq_skip (by k_asm) (by with_unfolding_all rfl) (by decide +kernel) ?_); intro tkS) | k_extra "zQ")
  all_goals (refine RetP.intro (by assumption) (by assumption) ⟨[(_, _)], fun q hq => hq, ?d, ?a⟩; (case d => k_extra "DAT"); (case a => k_extra "zA"))
  )
  k_extra "GG"
theorem plain_ref (w : World) (tk : Tok) (a d : Addr) (x y : Int) (t u t' u' : Tok) (n : Nat) (news : List (Addr × Obj)) (h1 : (a, instObj 249 d) ∈ news) (h2 : (d, dictOf [ent w "number" t (.int x u), ent w "generation" t' (.int y u')] n) ∈ news) : CallC w 267 2 6 [.str "ref" tk, .ref a] news (PlainPost (.tuple [.str "ref", .int x, .int y]) news) := by
  (k_with "GO" =>
  refine plain_body w _ _ _ _ _ ?_
  intro dp un gd outer A₀ base g mean mg mb L s B F X N' T' hd hu
  dsimp only [F267]
  repeat' (k_extra "zS"; first | k_extra "zP" | k_extra "BYTESR" | ((with_reducible show wpAny _ _ (execs (Stmt.If (PySem.Expr.Compare _ _ _ _) _ _ _ :: _) _) _ _ _); (with_reducible refine eq_skip (by k_asm) (by with_unfolding_all rfl) (by decide +kernel) ?_); intro tkS) | k_extra "zQ")
  all_goals (refine RetP.intro (by assumption) (by assumption) ⟨[(_, _)], fun q hq => hq, ?d, ?a⟩; (case d => k_extra "DAT"); (case a => k_extra "zA"))
  )
  k_extra "GG"
def AtomD : PV → Option Dat
  | .none => some (.tuple [.str "null"])
  | .bool b => some (.tuple [.str "truth", .int (if b then 1 else 0)])
  | .int i => some (.tuple [.str "int", .int i])
  | .name s => some (.tuple [.str "name", .str s])
  | .string b => some (.tuple [.str "string", .bytes b])
  | .dec t p => some (.tuple [.str "real", .int t, .int p])
  | .ref n g => some (.tuple [.str "ref", .int n, .int g])
  | _ => none
theorem atom_plain (w : World) {v : Value} {d : PV} {dat : Dat} {news : List (Addr × Obj)} (tk : Tok) (h : VIn w news v d) (ha : AtomD d = some dat) : CallC w 267 2 6 [.str (kindD d) tk, v] news (PlainPost dat news) := by
  k_extra "V0"
  cases h with
  | none => k_extra "V2"; cases ha; exact plain_none w tk news
  | bool b => k_extra "V2"; cases b <;> cases ha; exact plain_false w tk news; exact plain_true w tk news
  | int i t => k_extra "V2"; cases ha; exact plain_int w tk i t news
  | name h1 h2 => k_extra "V2"; cases ha; exact plain_name w tk _ _ _ _ _ _ news h1 h2
  | string h1 h2 => k_extra "V2"; cases ha; exact plain_string w tk _ _ _ _ _ _ _ news h1 h2
  | dec h1 h2 => k_extra "V2"; cases ha; exact plain_dec w tk _ _ _ _ _ _ _ _ _ news h1 h2
  | ref h1 h2 => k_extra "V2"; cases ha; exact plain_ref w tk _ _ _ _ _ _ _ _ _ news h1 h2
  | arr h1 h2 => k_extra "V2"; cases ha
  | dict h1 h2 h3 h4 => k_extra "V2"; cases ha
  | stream h1 h2 h3 h4 h5 h6 => k_extra "V2"; cases ha
theorem atom_kind {d : PV} {dat : Dat} (ha : AtomD d = some dat) : ¬ ((kindD d == Str.ofString "array") = true) ∧ ¬ ((kindD d == Str.ofString "dict") = true) ∧ ¬ ((kindD d == Str.ofString "stream") = true) := by
  cases d <;> first | (cases ha; done) | exact ⟨by (simp only [kindD]; decide +kernel), by (simp only [kindD]; decide +kernel), by (simp only [kindD]; decide +kernel)⟩
theorem told_body (w : World) (v : Value) (P : Value → List (Addr × Obj) → Prop) (dc uc : Nat) (news : List (Addr × Obj)) (h : BodyCC w 272 "told" F272.1.2.2 F272.1.2.1 (.ref 271) dc uc [("value", v)] news P) : CallC w 272 (dc + 1) (uc + 3) [v] news P :=
  enterCC (binds := [("value", v)]) (look_272 _) (code_272 _) (fun s _ => BindsTo.of_eq rfl) rfl (by decide +kernel) rfl rfl rfl h
theorem told_atom (w : World) {v : Value} {d : PV} {dat : Dat} {news : List (Addr × Obj)} (h : VIn w news v d) (ha : AtomD d = some dat) : CallC w 272 10 60 [v] news (PlainPost dat news) := by
  (k_with "GO" =>
  refine told_body w v _ 9 57 news ?_
  intro dp un gd outer A₀ base g mean mg mb L s cells B F X N' Y l1 T hd hu
  replace l1 := allLt_of l1
  k_cells Y
  simp only [List.cons_append, List.nil_append] at N'
  rename (_ = Data.cell _) => hcell
  rename_i oce
  change Fr g L s.heap (fun _ => none) at F
  change _ = Data.cell (some v) at hcell
  have hv : VIn w ((L + 1, oce) :: news) v d := h.mono fun _ hq => List.mem_cons_of_mem _ hq
  ((k_extra "V1"; obtain ⟨k1, k2, k3⟩ := atom_kind ha) <;> k_extra "V2")
  dsimp only [F272]
  repeat' (k_extra "zS"; first | k_extra "zP" | k_extra "KINDR0" | ((with_reducible show ite _ _ _); first | rw [if_neg k1] | rw [if_neg k2] | rw [if_neg k3]) | ((with_reducible show wpAny _ _ (call (Value.ref 267) _) _ _ _); refine (atom_plain w _ hv ha).use (by k_asm) (by k_asm) (by k_asm) (by k_asm) (by k_asm) (fun p hp => hp) rfl (by k_extra "ROOM") (by k_extra "UNITS") ?_; rintro r nw hh tkk F' N' ⟨tl, hs1, hs2, hs3⟩) | k_extra "zQ")
  exact RetP.intro F' N' ⟨tl, fun q hq => hs1 q ((List.mem_append.mp hq).elim (List.mem_append_left _) fun h => List.mem_append_right _ (List.mem_cons_of_mem _ h)), hs2, hs3.ltail⟩
  )
  k_extra "GG"
theorem tup_list {prog : Program} {w : World} {A : Around} {E : Value → Shared → Prop} {s : Shared} {h₀ : Heap} {L l : Addr} {m : Str → Option Value} {news : List (Addr × Obj)} {ys : List Value} {n : Nat} {Q : Value → Shared → Prop}
    (F : Fr h₀ L s.heap m) (N : News h₀ L s.heap news) (hl : (l, listOf ys.toArray n) ∈ news) (hsz : ys.length ≤ 1000)
    (h : ∀ D h', Fr h₀ L h' m → News h₀ L h' ((D, ({ cls := .type "tuple", data := .seq ys.toArray } : Obj)) :: news) → AllLt D news → Q (.ref D) { s with heap := h' }) : wpAny (model prog w) A (call (.type "tuple") [.ref l]) Q E s := by
  refine call_tuple_list (News.isList N hl) (fun h1 hk => ?_) (by rw [sizeLine_eq, List.size_toArray]; omega)
  have F1 := F.keeps hk
  have N1 := N.grown hk
  exact h _ _ (F1.push _) (N1.push F1 _) (allLt_of fun p hp => Heap.lt_size (N1 p hp).1)
theorem mem_of_one {α : Type} {x a : α} {r : List α} (h : x ∈ [a]) : x ∈ a :: r := (List.mem_singleton.mp h) ▸ List.mem_cons_self
theorem splC0 {fr : List (Addr × Obj)} : SplC [] fr fr [] := SplC.here
theorem news_spl0 {g h : Heap} {L : Addr} {fr l pre : List (Addr × Obj)} (N : News g L h l) (S : SplC [] fr l pre) : News g L h (pre ++ fr) := news_spl N S
theorem tup_cons {prog : Program} {w : World} {A : Around} {E : Value → Shared → Prop} {s : Shared} {h₀ : Heap} {L t b : Addr} {m : Str → Option Value} {news : List (Addr × Obj)} {x : Value} {ys : List Value} {n1 n2 : Nat} {Q : Value → Shared → Prop}
    (F : Fr h₀ L s.heap m) (N : News h₀ L s.heap news) (ht : (t, ({ cls := .type "tuple", data := .seq #[x] n1 } : Obj)) ∈ news) (hb : (b, ({ cls := .type "tuple", data := .seq ys.toArray n2 } : Obj)) ∈ news) (hl : ys.length ≤ 1000)
    (h : ∀ D n' pre h', Fr h₀ L h' m → News h₀ L h' (pre ++ news) → (D, ({ cls := .type "tuple", data := .seq (x :: ys).toArray n' } : Obj)) ∈ pre ++ [(t, ({ cls := .type "tuple", data := .seq #[x] n1 } : Obj))] → (∀ q ∈ pre, AllLt q.1 news) → Q (.ref D) { s with heap := h' }) : wpAny (model prog w) A (binaryOp .Add (.ref t) (.ref b)) Q E s := by
  cases ys with
  | nil => exact kde_addT1 F N (News.isTup N ht) (News.isTup N hb) (List.cons_ne_nil _ _) rfl (by simp) (h t n1 [] s.heap F N (by simp) (fun _ hq => nomatch hq))
  | cons y ys =>
    refine kde_addT (zs := x :: y :: ys) F N (News.isTup N ht) (News.isTup N hb) (List.cons_ne_nil _ _) (List.cons_ne_nil _ _) (by simp at hl ⊢; omega) rfl ?_
    intro D h' F' N' hlt
    exact h D 0 [(D, _)] h' F' N' List.mem_cons_self (fun q hq => by rw [List.mem_singleton.mp hq]; exact allLt_of hlt)
theorem vin_news {w : World} {g h : Heap} {L : Addr} {nl fr : List (Addr × Obj)} {v : Value} {d : PV} (N : News g L h nl) (hv : VIn w fr v d) (hs : ∀ q ∈ fr, q ∈ nl) : VIn w nl v d := hv.mono hs
theorem dall_at {w : World} {news : List (Addr × Obj)} : ∀ {vs : List Value} {ds : List PV}, VAll w news vs ds → ∀ {i : Nat} {v : Value}, vs[i]? = some v → ∃ d, ds[i]? = some d ∧ VIn w news v d := by
  intro vs
  induction vs with
  | nil => intro ds h i v e; simp at e
  | cons x vs ih =>
    intro ds h i v e
    k_extra "V0"
    cases h with
    | cons h r =>
      k_extra "V2"
      cases i with
      | zero => simp only [List.getElem?_cons_zero, Option.some.injEq] at e; subst e; exact ⟨_, rfl, h⟩
      | succ i => simp only [List.getElem?_cons_succ] at e ⊢; exact ih r e
theorem told_arr (w : World) {v : Value} {l : List PV} {f : PV → Dat} {dc uc : Nat} {news : List (Addr × Obj)} (h : VIn w news v (.arr l)) (hl : l.length ≤ 50) (hrec : ∀ x ∈ l, ∀ v' news', VIn w news' v' x → CallC w 272 dc uc [v'] news' (PlainPost (f x) news')) : CallC w 272 (dc + 10) (uc + 60) [v] news (PlainPost (.tuple (.str "array" :: l.map f)) news) := by
  (k_with "GO" =>
  refine told_body w v _ (dc + 9) (uc + 57) news ?_
  intro dp un gd outer A₀ base g mean mg mb L s cells B F X N' Y l1 T hd hu
  replace l1 := allLt_of l1
  k_cells Y
  simp only [List.cons_append, List.nil_append] at N'
  rename (_ = Data.cell _) => hcell
  rename_i oce
  change Fr g L s.heap (fun _ => none) at F
  change _ = Data.cell (some v) at hcell
  have hv : VIn w ((L + 1, oce) :: news) v (.arr l) := h.mono fun _ hq => List.mem_cons_of_mem _ hq
  refine vE_arr h ?_
  intro a_ vs_ c_ e_ hm hall
  cases e_
  have hvl := vall_length hall
  dsimp only [F272]
  repeat' (k_extra "zS"; (fail_if_success (with_reducible show LCg.CompSrc _ _ _ _ _ _ _ _ _ _ _ _ _ _)); first | k_extra "zP" | k_extra "KINDR" | k_extra "zQ")
  refine LCg.CompSrc.ledger (by rfl) (by k_asm) (by k_asm) (by k_mem) (by rw [sizeLine_eq, List.size_toArray]; omega) ?_
  intro g1
  refine comp_pure (fun i tl ys => DatAll tl ys ((l.take i).map f)) .nil ?_ ?_
  · intro i x ys tl hi hx hy hta hJ I oI C oC D m2 h1 tk1 E' hNs hx2 F1 N1 o1 o2 ne
    ((k_extra "V1"; obtain ⟨dx, hdx, hvx⟩ := dall_at hall (by simpa using hx)) <;> k_extra "V2")
    have hmx : dx ∈ l := List.mem_of_getElem? hdx
    ((k_extra "V1"; obtain ⟨ne1, ne2, ne3⟩ := ne) <;> k_extra "V2")
    have hvx' := vin_news N1 hvx (by k_extra "zU")
    repeat' (k_extra "zS"; first | k_extra "zP" | ((with_reducible show wpAny _ _ (call (Value.ref 272) _) _ _ _); refine (hrec dx hmx x _ hvx').use (by k_asm) (by k_asm) (by k_asm) (by k_asm) (by k_asm) (fun p hp => hp) rfl (by k_extra "ROOM") (by k_extra "UNITS") ?_; rintro r nw hh tkk F' N' ⟨tl2, hs1, hs2, hs3⟩) | k_extra "zQ")
    refine cpost_pure tl2 F' (fun q hq => N' q (hs1 q hq)) (LCg.Off3.of fun q hq => ⟨hs3.ne (d := I) (by k_mem) q hq, hs3.ne (d := C) (by k_mem) q hq, hs3.ne (d := D) (by k_mem) q hq⟩) o1 o2 (fun q hq => hs3 q (by k_mem)) hta ?e6 ?e7
    case e6 => lcg_src
    case e7 => show DatAll _ _ _; rw [List.take_add_one, hdx, Option.toList_some, List.map_append]; exact datAll_snoc hJ (hs2.mono fun _ hq => List.mem_append_left _ hq)
  · intro tl ys hy hta hJ
    rw [List.size_toArray] at hy
    replace hJ : DatAll tl ys (l.map f) := by simpa [hvl] using hJ
    have hta' : Apart news tl := fun q hq => hta q (by k_mem)
    repeat' (k_extra "zS"; first | k_extra "zP" | ((with_reducible show wpAny _ _ (call (Value.type "tuple") [Value.ref _]) _ _ _); refine tup_list (by k_asm) (by k_asm) (by k_mem) (by omega) ?_; intro DT hT1 FT NT lT; (try simp only [AllLt, allLt_append, and_true, and_assoc] at lT); (repeat (have k_l := And.left lT; replace lT := And.right lT)); (try k_sweep)) | ((with_reducible show wpAny _ _ (binaryOp Operator.Add (Value.ref _) (Value.ref _)) _ _ _); refine tup_cons (ys := ys) (by k_asm) (by k_asm) (by k_mem) (by k_mem) (by omega) ?_; intro DD nn' pre hh F9 N9 hD hpre) | k_extra "zQ")
    have hap : Apart news pre := fun q hq x hx => Ne.symm (allLt_ne (hpre x hx) q (by k_mem))
    have N8 := news_spl0 (fr := news) N9 (by repeat (first | exact splC0 | apply SplC.cons | apply SplC.app))
    refine RetP.intro (by assumption) N8 ⟨_, fun q hq => hq, ?d, ?a⟩
    case d =>
      ((k_extra "V1"; rcases List.mem_append.mp hD with h | h) <;> k_extra "V2")
      · exact DatIn.tuple (List.mem_append_left _ h) (.cons (.str _ _) (hJ.mono fun q hq => by k_mem))
      · exact DatIn.tuple (List.mem_append_right pre (List.mem_cons_of_mem _ (List.mem_cons_of_mem _ (List.mem_append_right tl (mem_of_one h))))) (.cons (.str _ _) (hJ.mono fun q hq => by k_mem))
    case a =>
      k_extra "zA"
  )
  k_extra "GG"
section compT
variable {prog : Program} {w : World} {A : Around} {s : Shared} {h₀ : Heap} {L : Addr} {m : Str → Option Value} {env : Env} {elt ct : PySem.Expr} {x : Str} {scope : Scope} {cl : List (Str × Addr)} {S : List (Addr × Obj) → Prop} {P : Nat → Value → Prop} {Fin : List Value → List (Addr × Obj) → Prop} {news₀ : List (Addr × Obj)} {n : Nat}
abbrev CPostT (J : Nat → List (Addr × Obj) → List Value → Prop) (news₀ : List (Addr × Obj)) (i : Nat) (ys : List Value) (news' : List (Addr × Obj)) : Prop := ∃ tl', news' = tl' ++ news₀ ∧ Apart news₀ tl' ∧ J (i + 1) tl' ys
theorem compT_pure (J : Nat → List (Addr × Obj) → List Value → Prop) (h0 : J 0 [] [])
    (step : ∀ i v ys tl, i < n → P i v → Apart news₀ tl → J i tl ys → ∀ I oI C oC D m₂ h tk (E' : Value → Shared → Prop), LCg.NsObj oC m₂ → m₂ x = some v → Fr h₀ L h m → News h₀ L h ((I, oI) :: (C, oC) :: (D, LCg.lst ys) :: (tl ++ news₀)) → LCg.Off3 I C D tl → LCg.Off3 I C D news₀ → ((@Ne Nat I C) ∧ (@Ne Nat I D) ∧ (@Ne Nat C D)) →
      wpAny (model prog w) A (isTrue ct (compEnvC scope cl C env) (eval ct (compEnvC scope cl C env))) (fun ok s' => if ok = true then
        wpAny (model prog w) A (eval elt (compEnvC scope cl C env)) (LCg.CompEnd h₀ L m { s with heap := h, toks := tk } I oI C oC D (LCg.lst ys) S (fun y news' => CPostT J news₀ i (ys ++ [y]) news')) E' s'
        else LCg.CompEnd h₀ L m { s with heap := h, toks := tk } I oI C oC D (LCg.lst ys) S (fun _ news' => CPostT J news₀ i ys news') Value.none s') E' { s with heap := h, toks := tk })
    (fin : ∀ tl ys, Apart news₀ tl → J n tl ys → Fin ys (tl ++ news₀)) : LCt.CompRestT prog w A h₀ L m env ct elt x scope cl s S P Fin n 0 [] news₀ := by
  have key : ∀ (j i : Nat) (ys : List Value) (tl : List (Addr × Obj)), i + j = n → Apart news₀ tl → J i tl ys → LCt.CompRestT prog w A h₀ L m env ct elt x scope cl s S P Fin j i ys (tl ++ news₀) := by
    intro j
    induction j with
    | zero =>
      intro i ys tl hi ha hJ
      have e : i = n := by omega
      subst e
      exact LCt.CompRestT.zero (fin tl ys ha hJ)
    | succ j ih =>
      intro i ys tl hi ha hJ
      refine LCt.CompRestT.succ ?_
      intro v I oI C oC D m₂ h tk E' hv hC hx F N off ne
      have o := off3_app_iff.mp off
      refine wpAny_mono (step i v ys tl (by omega) hv ha hJ I oI C oC D m₂ h tk E' hC hx F N o.1 o.2 ne) (fun ok s₂ hq => ?_) fun _ _ e => e
      cases ok with
      | true =>
        rw [if_pos rfl] at hq ⊢
        refine wpAny_mono hq (fun y s₃ hq => ?_) fun _ _ e => e
        ((k_extra "V1"; obtain ⟨h', tk', nw, e, F', N', off', hS, tl', rfl, ha', hJ'⟩ := hq) <;> k_extra "V2")
        exact ⟨h', tk', _, e, F', N', off', hS, ih (i + 1) _ tl' (by omega) ha' hJ'⟩
      | false =>
        rw [if_neg Bool.false_ne_true] at hq ⊢
        ((k_extra "V1"; obtain ⟨h', tk', nw, e, F', N', off', hS, tl', rfl, ha', hJ'⟩ := hq) <;> k_extra "V2")
        exact ⟨h', tk', _, e, F', N', off', hS, ih (i + 1) _ tl' (by omega) ha' hJ'⟩
  exact key n 0 [] [] (by omega) Apart.nil h0
theorem cpostT {J : Nat → List (Addr × Obj) → List Value → Prop} {i : Nat} {ys : List Value} {y : Value} {I C D : Addr} {oI oC oD : Obj} {h' : Heap} {tk : Nat} {R : Value → List Value} (pre : List (Addr × Obj)) {tl : List (Addr × Obj)}
    (F : Fr h₀ L h' m) (N : News h₀ L h' (pre ++ (I, oI) :: (C, oC) :: (D, oD) :: (tl ++ news₀))) (o1 : LCg.Off3 I C D pre) (o2 : LCg.Off3 I C D tl) (o3 : LCg.Off3 I C D news₀) (a1 : Apart news₀ pre) (a2 : Apart news₀ tl) (hS : S (pre ++ tl ++ news₀)) (hJ : J (i + 1) (pre ++ tl) (R y)) :
    LCg.CompEnd h₀ L m s I oI C oC D oD S (fun z news' => CPostT J news₀ i (R z) news') y { s with heap := h', toks := tk } :=
  compEnd_pre pre F N o1 (off3_append o2 o3) (by rw [← List.append_assoc]; exact hS) ⟨pre ++ tl, (List.append_assoc _ _ _).symm, a1.app a2, hJ⟩
end compT
theorem ves_keys {w : World} {news : List (Addr × Obj)} : ∀ {kvs : List (Str × Value)} {es : List (Str × PV)}, VEs w news kvs es → kvs.map (·.1) = es.map (·.1)
  | [], _, h => by cases h; rfl
  | _ :: _, _, h => by cases h with | cons a b => simp only [List.map_cons]; rw [ves_keys b]
theorem ves_length {w : World} {news : List (Addr × Obj)} {kvs : List (Str × Value)} {es : List (Str × PV)} (h : VEs w news kvs es) : kvs.length = es.length := by
  have := congrArg List.length (ves_keys h)
  simpa using this
theorem ves_at {w : World} {news : List (Addr × Obj)} : ∀ {kvs : List (Str × Value)} {es : List (Str × PV)}, VEs w news kvs es → ∀ {i : Nat} {k : Str} {v : Value}, kvs[i]? = some (k, v) → ∃ d, es[i]? = some (k, d) ∧ VIn w news v d
  | [], _, _, i, k, v, e => by simp at e
  | (k', v') :: kvs, es, h, i, k, v, e => by
    k_extra "V0"
    cases h with
    | cons a b =>
      k_extra "V2"
      cases i with
      | zero => simp only [List.getElem?_cons_zero, Option.some.injEq, Prod.mk.injEq] at e; obtain ⟨rfl, rfl⟩ := e; exact ⟨_, rfl, a⟩
      | succ i => simp only [List.getElem?_cons_succ] at e ⊢; exact ves_at b e
theorem strs_at {vs : List Value} {ks : List Str} (h : StrsAre vs ks) : ∀ {i : Nat} {v : Value}, vs[i]? = some v → ∃ k t, ks[i]? = some k ∧ v = .str k t := by
  induction h with
  | nil => intro i v e; simp at e
  | cons x t r ih =>
    intro i v e
    ((k_extra "V1"; rcases i with _ | i) <;> k_extra "V2")
    · simp only [List.getElem?_cons_zero, Option.some.injEq] at e; exact ⟨x, t, rfl, e.symm⟩
    · simp only [List.getElem?_cons_succ] at e ⊢; exact ih e
theorem vin_notNone {w : World} {news : List (Addr × Obj)} {v : Value} {d : PV} (h : VIn w news v d) (hd : d ≠ .none) : v ≠ .none := by
  intro e
  subst e
  ((k_extra "V1"; cases h) <;> k_extra "V2")
  exact hd rfl
theorem datAll_length {news : List (Addr × Obj)} : ∀ {vs : List Value} {ds : List Dat}, DatAll news vs ds → vs.length = ds.length
  | [], _, h => by cases h; rfl
  | _ :: _, _, h => by cases h with | cons a b => simp [datAll_length b]
theorem dict_nodup {prog : Program} {w : World} {K : Type} [DecidableEq K] {knd : PySem.KeyKind prog w K} {o : Obj} {kvs : List (K × Value)} (h : o.IsDictOf knd kvs) : (kvs.map (·.1)).Nodup := by
  ((k_extra "V1"; obtain ⟨es, ep, _, _, _, _, hn⟩ := h) <;> k_extra "V2")
  exact hn
theorem told_dict (w : World) {a : Addr} {o : Obj} {kvs : List (Str × Value)} {es : List (Str × PV)} {f : PV → Dat} {dc uc : Nat} {news : List (Addr × Obj)} (hm : (a, o) ∈ news) (hd0 : o.IsDictOf (PySem.strKind PG w) kvs) (hlo : (a == sysModules) = false) (hes : VEs w news kvs es) (hl : kvs.length ≤ 50) (hr : Rising (kvs.map (·.1))) (hnn : ∀ x ∈ es, x.2 ≠ .none) (hrec : ∀ x ∈ es, ∀ v' news', VIn w news' v' x.2 → CallC w 272 dc uc [v'] news' (PlainPost (f x.2) news')) : CallC w 272 (dc + 10) (uc + 60) [.ref a] news (PlainPost (.tuple (.str "dict" :: es.map fun e => .tuple [.str e.1, f e.2])) news) := by
  (k_with "GO" =>
  have h : VIn w news (.ref a) (.dict es) := .dict hm hd0 hlo hes
  refine told_body w _ _ (dc + 9) (uc + 57) news ?_
  intro dp un gd outer A₀ base g mean mg mb L s cells B F X N' Y l1 T hd hu
  replace l1 := allLt_of l1
  k_cells Y
  simp only [List.cons_append, List.nil_append] at N'
  rename (_ = Data.cell _) => hcell
  rename_i oce
  change Fr g L s.heap (fun _ => none) at F
  change _ = Data.cell (some (.ref a)) at hcell
  have hv : VIn w ((L + 1, oce) :: news) (.ref a) (.dict es) := h.mono fun _ hq => List.mem_cons_of_mem _ hq
  have hvl := ves_length hes
  have hnd := dict_nodup hd0
  dsimp only [F272]
  repeat' (k_extra "zS"; (fail_if_success (with_reducible show LCt.CompSrcT _ _ _ _ _ _ _ _ _ _ _ _ _ _ _)); first | k_extra "zP" | k_extra "KINDR" | k_extra "SORTS" | k_extra "zQ")
  refine LCt.CompSrcT.ledger (by rfl) (by k_asm) (by k_asm) (by k_mem) (by rw [sizeLine_eq, List.size_toArray]; have := hvS.length; simp at this; omega) ?_
  intro g1
  have hvS2 : vsS.length = es.length := by have := hvS.length; simp at this; omega
  refine compT_pure (fun i tl ys => DatAll tl ys ((es.take i).map fun e => .tuple [.str e.1, f e.2])) .nil ?_ ?_
  · intro i x ys tl hi hx hta hJ I oI C oC D m2 h1 tk1 E' hNs hx2 F1 N1 o1 o2 ne
    ((k_extra "V1"; obtain ⟨k, t, hk, rfl⟩ := strs_at hvS (by simpa using hx)) <;> k_extra "V2")
    obtain ⟨v0, hkv⟩ : ∃ v0, kvs[i]? = some (k, v0) := by
      rw [List.getElem?_map] at hk
      ((k_extra "V1"; obtain ⟨q, hq, rfl⟩ := Option.map_eq_some_iff.mp hk) <;> k_extra "V2")
      exact ⟨q.2, hq⟩
    ((k_extra "V1"; obtain ⟨d, hed, hvd⟩ := ves_at hes hkv) <;> k_extra "V2")
    have hva := valueAt_of_get hnd hkv
    have hmx : (k, d) ∈ es := List.mem_of_getElem? hed
    have hne : v0 ≠ .none := vin_notNone hvd (hnn _ hmx)
    ((k_extra "V1"; obtain ⟨ne1, ne2, ne3⟩ := ne) <;> k_extra "V2")
    have hvx' := vin_news N1 hvd (by k_extra "zU")
    repeat' (k_extra "zS"; first | k_extra "zP" | ((with_reducible show wpAny _ _ (subscriptTail _ _ (Value.ref _) (Value.str _ _)) _ _ _); refine kda_item (knd := PySem.strKind _ _) (by k_asm) (by k_mem) (by k_asm) (strKind_is _ _ _ _) hva ?_) | ((with_reducible show wpAny _ _ (compareOp CmpOp.IsNot _ Value.none) _ _ _); refine isnot_none_ne hne ?_) | ((with_reducible show wpAny _ _ (call (Value.ref 272) _) _ _ _); refine (hrec _ hmx v0 _ hvx').use (by k_asm) (by k_asm) (by k_asm) (by k_asm) (by k_asm) (fun p hp => hp) rfl (by k_extra "ROOM") (by k_extra "UNITS") ?_; rintro r nw hh tkk F' N' ⟨tl2, hs1, hs2, hs3⟩; replace N' := fun q hq => N' q (hs1 q hq)) | k_extra "zQ")
    refine' cpostT ((_, _) :: tl2) (ys := ys) (R := fun y => ys ++ [y]) (by assumption) (by assumption) ?e1 o1 o2 ?e5 hta ?e6 ?e7
    case e1 => exact off3_cons (by k_ne) (by k_ne) (by k_ne) (LCg.Off3.of fun q hq => ⟨hs3.ne (d := I) (by k_mem) q hq, hs3.ne (d := C) (by k_mem) q hq, hs3.ne (d := D) (by k_mem) q hq⟩)
    case e5 => exact Apart.cons (by k_all) (fun q hq => hs3 q (by k_mem))
    case e6 => lcg_src
    case e7 => show DatAll _ _ _; rw [List.take_add_one, hed, Option.toList_some, List.map_append]; exact datAll_snoc hJ (DatIn.tuple (by k_mem) (.cons (.str _ _) (.cons (hs2.mono fun _ hq => by k_mem) .nil)))
  · intro tl ys hta hJ
    rw [List.size_toArray, hvS2, List.take_length] at hJ
    have hyl : ys.length ≤ 1000 := by have := datAll_length hJ; simp at this; omega
    have hta' : Apart news tl := fun q hq => hta q (by k_mem)
    repeat' (k_extra "zS"; first | k_extra "zP" | ((with_reducible show wpAny _ _ (call (Value.type "tuple") [Value.ref _]) _ _ _); refine tup_list (by k_asm) (by k_asm) (by k_mem) (by omega) ?_; intro DT hT1 FT NT lT; (try simp only [AllLt, allLt_append, and_true, and_assoc] at lT); (repeat (have k_l := And.left lT; replace lT := And.right lT)); (try k_sweep)) | ((with_reducible show wpAny _ _ (binaryOp Operator.Add (Value.ref _) (Value.ref _)) _ _ _); refine tup_cons (ys := ys) (by k_asm) (by k_asm) (by k_mem) (by k_mem) (by omega) ?_; intro DD nn' pre hh F9 N9 hD hpre) | k_extra "zQ")
    have hap : Apart news pre := fun q hq x hx => Ne.symm (allLt_ne (hpre x hx) q (by k_mem))
    have N8 := news_spl0 (fr := news) N9 (by repeat (first | exact splC0 | apply SplC.cons | apply SplC.app))
    refine RetP.intro (by assumption) N8 ⟨_, fun q hq => hq, ?d, ?a⟩
    case d =>
      ((k_extra "V1"; rcases List.mem_append.mp hD with h | h) <;> k_extra "V2")
      · exact DatIn.tuple (List.mem_append_left _ h) (.cons (.str _ _) (hJ.mono fun q hq => by k_mem))
      · exact DatIn.tuple (by have h' := List.mem_singleton.mp h; rw [h']; k_mem) (.cons (.str _ _) (hJ.mono fun q hq => by k_mem))
    case a =>
      k_extra "zA"
  )
  k_extra "GG"
theorem told_stream (w : World) {a d x : Addr} {b : Array UInt8} {t t' u : Tok} {n : Nat} {o : Obj} {kvs : List (Str × Value)} {es : List (Str × PV)} {dat : Dat} {dc uc : Nat} {news : List (Addr × Obj)}
    (h1 : (a, instObj 221 d) ∈ news) (h2 : (d, dictOf [ent w "head" t (.ref x), ent w "octets" t' (.bytes b u)] n) ∈ news) (h3 : (x, o) ∈ news) (h4 : o.IsDictOf (PySem.strKind PG w) kvs) (h5 : (x == sysModules) = false) (h6 : VEs w news kvs es)
    (hrec : ∀ news', VIn w news' (.ref x) (.dict es) → CallC w 272 dc uc [.ref x] news' (PlainPost dat news')) : CallC w 272 (dc + 10) (uc + 60) [.ref a] news (PlainPost (.tuple [.str "stream", dat, .bytes b]) news) := by
  (k_with "GO" =>
  have h : VIn w news (.ref a) (.stream es b) := .stream h1 h2 h3 h4 h5 h6
  have hx : VIn w news (.ref x) (.dict es) := .dict h3 h4 h5 h6
  refine told_body w _ _ (dc + 9) (uc + 57) news ?_
  intro dp un gd outer A₀ base g mean mg mb L s cells B F X N' Y l1 T hd hu
  replace l1 := allLt_of l1
  k_cells Y
  simp only [List.cons_append, List.nil_append] at N'
  rename (_ = Data.cell _) => hcell
  rename_i oce
  change Fr g L s.heap (fun _ => none) at F
  change _ = Data.cell (some (.ref a)) at hcell
  have hv : VIn w ((L + 1, oce) :: news) (.ref a) (.stream es b) := h.mono fun _ hq => List.mem_cons_of_mem _ hq
  have hx' : VIn w ((L + 1, oce) :: news) (.ref x) (.dict es) := hx.mono fun _ hq => List.mem_cons_of_mem _ hq
  dsimp only [F272]
  repeat' (k_extra "zS"; first | k_extra "zP" | k_extra "KINDR" | k_extra "BYTESR" | ((with_reducible show wpAny _ _ (call (Value.ref 272) _) _ _ _); refine (hrec _ hx').use (by k_asm) (by k_asm) (by k_asm) (by k_asm) (by k_asm) (fun p hp => hp) rfl (by k_extra "ROOM") (by k_extra "UNITS") ?_; rintro r nw hh tkk F' N' ⟨tl2, hs1, hs2, hs3⟩; replace N' := fun q hq => N' q (hs1 q hq)) | k_extra "zQ")
  rename (News _ _ _ _) => N9
  have N8 := news_spl0 (fr := news) N9 (by repeat (first | exact splC0 | apply SplC.cons | apply SplC.app))
  refine RetP.intro (by assumption) N8 ⟨_, fun q hq => hq, ?d, ?a⟩
  case d => exact DatIn.tuple (by k_mem) (.cons (.str _ _) (.cons (hs2.mono fun _ hq => by k_mem) (.cons (.bytes _ _) .nil)))
  case a => 
    have hap : Apart news tl2 := fun q hq => hs3 q (by k_mem)
    k_extra "zA"
  )
  k_extra "GG"
def ToldOk : Nat → PV → Prop
  | 0, _ => False
  | n + 1, d => match d with
    | .arr l => l.length ≤ 50 ∧ ∀ x ∈ l, ToldOk n x
    | .dict es => es.length ≤ 50 ∧ Rising (es.map (·.1)) ∧ ∀ e ∈ es, e.2 ≠ .none ∧ ToldOk n e.2
    | .stream es b => es.length ≤ 50 ∧ Rising (es.map (·.1)) ∧ ∀ e ∈ es, e.2 ≠ .none ∧ ToldOk n e.2
    | _ => True
theorem toldF_atom {d : PV} {dat : Dat} (h : AtomD d = some dat) (n : Nat) : toldF (n + 1) d = dat := by
  cases d <;> first | exact Option.some.inj h | exact nomatch h
theorem CallC.le {w : World} {f : Addr} {dc uc dc' uc' : Nat} {vs : List Value} {news : List (Addr × Obj)} {Post : Value → List (Addr × Obj) → Prop} (C : CallC w f dc uc vs news Post) (h1 : dc ≤ dc') (h2 : uc ≤ uc') : CallC w f dc' uc' vs news Post :=
  fun dp un gd cn cs a ccd cl outer A₀ base h₀ mean mg mb L m s Q E B F X N T hk hd hu hr => C dp un gd cn cs a ccd cl outer A₀ base h₀ mean mg mb L m s Q E B F X N T hk (by omega) (by omega) hr
theorem told_ok (w : World) : ∀ (n : Nat) {v : Value} {d : PV} {news : List (Addr × Obj)}, ToldOk n d → VIn w news v d → CallC w 272 (20 * n) (120 * n) [v] news (PlainPost (toldF n d) news)
  | 0, _, _, _, h, _ => h.elim
  | n + 1, v, d, news, hk, hv => by
    have dict : ∀ {v : Value} {es : List (Str × PV)} {news : List (Addr × Obj)}, ToldOk (n + 1) (.dict es) → VIn w news v (.dict es) → CallC w 272 (20 * n + 10) (120 * n + 60) [v] news (PlainPost (toldF (n + 1) (.dict es)) news) := by
      intro v es news hk hv
      k_extra "V0"
      cases hv with
      | dict h1 h2 h3 h4 => k_extra "V2"; exact told_dict w h1 h2 h3 h4 (by rw [ves_length h4]; exact hk.1) (by rw [ves_keys h4]; exact hk.2.1) (fun e he => (hk.2.2 e he).1) fun e he v' news' hv' => told_ok w n (hk.2.2 e he).2 hv'
    have atom : ∀ dat, AtomD d = some dat → CallC w 272 (20 * (n + 1)) (120 * (n + 1)) [v] news (PlainPost (toldF (n + 1) d) news) := fun dat h => by
      rw [toldF_atom h]; exact (told_atom w hv h).le (by omega) (by omega)
    cases d with
    | none => exact atom _ rfl
    | bool b => exact atom _ rfl
    | int i => exact atom _ rfl
    | name x => exact atom _ rfl
    | string x => exact atom _ rfl
    | dec x y => exact atom _ rfl
    | ref x y => exact atom _ rfl
    | arr l => exact (told_arr w hv hk.1 fun x hx v' news' hv' => told_ok w n (hk.2 x hx) hv').le (by omega) (by omega)
    | dict es => exact (dict hk hv).le (by omega) (by omega)
    | stream es b =>
      k_extra "V0"
      cases hv with
      | stream h1 h2 h3 h4 h5 h6 => k_extra "V2"; exact (told_stream w h1 h2 h3 h4 h5 h6 fun news' hv' => dict hk hv').le (by omega) (by omega)
def partsPV : PV → List PV
  | .arr l => l
  | .dict es => es.map (·.2)
  | .stream es _ => es.map (·.2)
  | _ => []
inductive PartsPost (w : World) (n0 : List (Addr × Obj)) (ds : List PV) (news : List (Addr × Obj)) (r : Value) (news' : List (Addr × Obj)) : Prop
  | mk : ∀ D ys n tl, r = .ref D → (∀ q ∈ tl ++ news, q ∈ news') → (D, listOf (List.toArray ys) n) ∈ tl → VAll w n0 ys ds → Apart news tl → PartsPost w n0 ds news r news'
theorem parts_body (w : World) (v : Value) (P : Value → List (Addr × Obj) → Prop) (dc uc : Nat) (news : List (Addr × Obj)) (h : BodyCC w 277 "parts_of" F277.1.2.2 F277.1.2.1 (.ref 276) dc uc [("value", v)] news P) : CallC w 277 (dc + 1) (uc + 3) [v] news P :=
  enterCC (binds := [("value", v)]) (look_277 _) (code_277 _) (fun s _ => BindsTo.of_eq rfl) rfl (by decide +kernel) rfl rfl rfl h
theorem parts_atom (w : World) {v : Value} {d : PV} {dat : Dat} {n0 news : List (Addr × Obj)} (h0 : VIn w n0 v d) (ha : AtomD d = some dat) (hs : ∀ q ∈ n0, q ∈ news) : CallC w 277 10 60 [v] news (PartsPost w n0 [] news) := by
  (k_with "GO" =>
  have h := h0.mono hs
  refine parts_body w v _ 9 57 news ?_
  intro dp un gd outer A₀ base g mean mg mb L s cells B F X N' Y l1 T hd hu
  replace l1 := allLt_of l1
  k_cells Y
  simp only [List.cons_append, List.nil_append] at N'
  rename (_ = Data.cell _) => hcell
  rename_i oce
  change Fr g L s.heap (fun _ => none) at F
  change _ = Data.cell (some v) at hcell
  have hv : VIn w ((L + 1, oce) :: news) v d := h.mono fun _ hq => List.mem_cons_of_mem _ hq
  ((k_extra "V1"; obtain ⟨k1, k2, k3⟩ := atom_kind ha) <;> k_extra "V2")
  dsimp only [F277]
  repeat' (k_extra "zS"; first | k_extra "zP" | k_extra "KINDR0" | ((with_reducible show ite _ _ _); first | rw [if_neg k1] | rw [if_neg k2] | rw [if_neg k3]) | k_extra "zQ")
  refine RetP.intro (by assumption) (by assumption) ⟨_, [], _, [_, _], rfl, fun q hq => hq, by k_mem, .nil, ?a⟩
  case a => k_extra "zA"
  )
  k_extra "GG"
theorem parts_arr (w : World) {v : Value} {l : List PV} {n0 news : List (Addr × Obj)} (h0 : VIn w n0 v (.arr l)) (hl : l.length ≤ 50) (hs : ∀ q ∈ n0, q ∈ news) : CallC w 277 10 60 [v] news (PartsPost w n0 l news) := by
  (k_with "GO" =>
  have h := h0.mono hs
  refine parts_body w v _ 9 57 news ?_
  intro dp un gd outer A₀ base g mean mg mb L s cells B F X N' Y l1 T hd hu
  replace l1 := allLt_of l1
  k_cells Y
  simp only [List.cons_append, List.nil_append] at N'
  rename (_ = Data.cell _) => hcell
  rename_i oce
  change Fr g L s.heap (fun _ => none) at F
  change _ = Data.cell (some v) at hcell
  have hv : VIn w ((L + 1, oce) :: news) v (.arr l) := h.mono fun _ hq => List.mem_cons_of_mem _ hq
  refine vE_arr h0 ?_
  intro a_ vs_ c_ e_ hm0 hall
  cases e_
  have hm := hs _ hm0
  have hvl := vall_length hall
  dsimp only [F277]
  repeat' (k_extra "zS"; first | k_extra "zP" | k_extra "KINDR" | ((with_reducible show wpAny _ _ (call (Value.type "list") [Value.ref _]) _ _ _); refine list_copyK (by k_asm) (by k_asm) (News.isList (by k_asm) (by k_mem)) ?_ (by rw [sizeLine_eq, List.size_toArray]; omega); intro DL cL hL FL NL lL; replace lL := allLt_of lL; (try k_sweep)) | k_extra "zQ")
  refine RetP.intro (by assumption) (by assumption) ⟨_, _, _, [_, _], rfl, fun q hq => hq, by k_mem, hall, ?a⟩
  case a => simp only [AllLt] at lL; have l2 := lL.2; k_extra "zA"
  )
  k_extra "GG"
theorem parts_dict (w : World) {v : Value} {es : List (Str × PV)} {n0 news : List (Addr × Obj)} (h0 : VIn w n0 v (.dict es)) (hl : es.length ≤ 50) (hr : Rising (es.map (·.1))) (hs : ∀ q ∈ n0, q ∈ news) : CallC w 277 10 60 [v] news (PartsPost w n0 (es.map (·.2)) news) := by
  (k_with "GO" =>
  have h := h0.mono hs
  refine parts_body w v _ 9 57 news ?_
  intro dp un gd outer A₀ base g mean mg mb L s cells B F X N' Y l1 T hd hu
  replace l1 := allLt_of l1
  k_cells Y
  simp only [List.cons_append, List.nil_append] at N'
  rename (_ = Data.cell _) => hcell
  rename_i oce
  change Fr g L s.heap (fun _ => none) at F
  change _ = Data.cell (some v) at hcell
  have hv : VIn w ((L + 1, oce) :: news) v (.dict es) := h.mono fun _ hq => List.mem_cons_of_mem _ hq
  refine vE_dict h0 ?_
  intro a o kvs e_ hm0 hd0 hlo hes
  cases e_
  have hm := hs _ hm0
  have hvl := ves_length hes
  have hnd := dict_nodup hd0
  rw [← ves_keys hes] at hr
  dsimp only [F277]
  repeat' (k_extra "zS"; (fail_if_success (with_reducible show LCg.CompSrc _ _ _ _ _ _ _ _ _ _ _ _ _ _)); first | k_extra "zP" | k_extra "KINDR" | k_extra "SORTS" | k_extra "zQ")
  refine LCg.CompSrc.ledger (by rfl) (by k_asm) (by k_asm) (by k_mem) (by rw [sizeLine_eq, List.size_toArray]; have := hvS.length; simp at this; omega) ?_
  intro g1
  have hvS2 : vsS.length = es.length := by have := hvS.length; simp at this; omega
  refine comp_pure (fun i tl ys => VAll w n0 ys ((es.take i).map (·.2))) .nil ?_ ?_
  · intro i x ys tl hi hx hy hta hJ I oI C oC D m2 h1 tk1 E' hNs hx2 F1 N1 o1 o2 ne
    ((k_extra "V1"; obtain ⟨k, t, hk, rfl⟩ := strs_at hvS (by simpa using hx)) <;> k_extra "V2")
    obtain ⟨v0, hkv⟩ : ∃ v0, kvs[i]? = some (k, v0) := by
      rw [List.getElem?_map] at hk
      ((k_extra "V1"; obtain ⟨q, hq, rfl⟩ := Option.map_eq_some_iff.mp hk) <;> k_extra "V2")
      exact ⟨q.2, hq⟩
    ((k_extra "V1"; obtain ⟨d, hed, hvd⟩ := ves_at hes hkv) <;> k_extra "V2")
    have hva := valueAt_of_get hnd hkv
    ((k_extra "V1"; obtain ⟨ne1, ne2, ne3⟩ := ne) <;> k_extra "V2")
    repeat' (k_extra "zS"; first | k_extra "zP" | ((with_reducible show wpAny _ _ (subscriptTail _ _ (Value.ref _) (Value.str _ _)) _ _ _); refine kda_item (knd := PySem.strKind _ _) (by k_asm) (by k_mem) (by k_asm) (strKind_is _ _ _ _) hva ?_) | k_extra "zQ")
    refine cpost_pure [] F1 N1 off3_nil o1 o2 Apart.nil hta ?e6 ?e7
    case e6 => lcg_src
    case e7 => show VAll _ _ _ _; rw [List.take_add_one, hed, Option.toList_some, List.map_append]; exact vall_snoc (pre := []) hJ hvd
  · intro tl ys hy hta hJ
    rw [List.size_toArray, hvS2, List.take_length] at hJ
    have hta' : Apart news tl := fun q hq => hta q (by k_mem)
    repeat' (k_extra "zS"; first | k_extra "zP" | k_extra "zQ")
    rename (News _ _ _ _) => N9
    have N8 := news_spl0 (fr := news) N9 (by repeat (first | exact splC0 | apply SplC.cons | apply SplC.app))
    refine RetP.intro (by assumption) N8 ⟨D', ys, _, _, rfl, fun q hq => hq, by k_mem, hJ, ?a⟩
    case a => k_extra "zA"
  )
  k_extra "GG"
theorem parts_stream (w : World) {v : Value} {b : Array UInt8} {es : List (Str × PV)} {n0 news : List (Addr × Obj)} (h0 : VIn w n0 v (.stream es b)) (hl : es.length ≤ 50) (hr : Rising (es.map (·.1))) (hs : ∀ q ∈ n0, q ∈ news) : CallC w 277 20 120 [v] news (PartsPost w n0 (es.map (·.2)) news) := by
  (k_with "GO" =>
  have h := h0.mono hs
  refine parts_body w v _ 19 117 news ?_
  intro dp un gd outer A₀ base g mean mg mb L s cells B F X N' Y l1 T hd hu
  replace l1 := allLt_of l1
  k_cells Y
  simp only [List.cons_append, List.nil_append] at N'
  rename (_ = Data.cell _) => hcell
  rename_i oce
  change Fr g L s.heap (fun _ => none) at F
  change _ = Data.cell (some v) at hcell
  have hv : VIn w ((L + 1, oce) :: news) v (.stream es b) := h.mono fun _ hq => List.mem_cons_of_mem _ hq
  refine vE_stream h0 ?_
  intro a d x t t' u n o kvs e_ h10 h20 h30 h4 h5 h6
  cases e_
  have h1 := hs _ h10
  have h2 := hs _ h20
  have hx' : VIn w n0 (.ref x) (.dict es) := VIn.dict h30 h4 h5 h6
  dsimp only [F277]
  repeat' (k_extra "zS"; first | k_extra "zP" | k_extra "KINDR" | ((with_reducible show wpAny _ _ (call (Value.ref 277) _) _ _ _); refine (parts_dict w hx' hl hr (fun q hq => List.mem_cons_of_mem _ (hs q hq))).use (by k_asm) (by k_asm) (by k_asm) (by k_asm) (by k_asm) (fun p hp => hp) rfl (by k_extra "ROOM") (by k_extra "UNITS") ?_; rintro r nw hh tkk F' N' ⟨D2, ys, n2, tl2, rfl, hs1, hs2, hs3, hs4⟩) | k_extra "zQ")
  refine RetP.intro (by assumption) (by assumption) ⟨D2, ys, _, tl2 ++ [(L + 1, oce)], rfl, fun q hq => hs1 q (by simpa using hq), List.mem_append_left _ hs2, hs3, ?a⟩
  case a => 
    have hap : Apart news tl2 := fun q hq => hs4 q (by k_mem)
    k_extra "zA"
  )
  k_extra "GG"
theorem parts_ok (w : World) {v : Value} {d : PV} {n : Nat} {n0 news : List (Addr × Obj)} (hk : ToldOk n d) (hv : VIn w n0 v d) (hs : ∀ q ∈ n0, q ∈ news) : CallC w 277 20 120 [v] news (PartsPost w n0 (partsPV d) news) := by
  cases n with
  | zero => exact hk.elim
  | succ n =>
  have atom : ∀ dat, AtomD d = some dat → CallC w 277 20 120 [v] news (PartsPost w n0 [] news) := fun dat h => (parts_atom w hv h hs).le (by omega) (by omega)
  cases d with
  | none => exact atom _ rfl
  | bool b => exact atom _ rfl
  | int i => exact atom _ rfl
  | name x => exact atom _ rfl
  | string x => exact atom _ rfl
  | dec x y => exact atom _ rfl
  | ref x y => exact atom _ rfl
  | arr l => exact (parts_arr w hv hk.1 hs).le (by omega) (by omega)
  | dict es => exact (parts_dict w hv hk.1 hk.2.1 hs).le (by omega) (by omega)
  | stream es b => exact parts_stream w hv hk.1 hk.2.1 hs
theorem lri_no_len : typeLookup (.type "list_reverseiterator") "__len__" = pure none := by rw [typeLookup_type, builtinLookup_eq_fast]; kernel_rfl
theorem lri_hint : typeLookup (.type "list_reverseiterator") "__length_hint__" = pure (some (.builtin "list_reverseiterator.__length_hint__")) := by rw [typeLookup_type, builtinLookup_eq_fast]; kernel_rfl
theorem walks_shift {prog : Program} {w : World} {A : Around} {I : Addr} {fp wr : List Addr} {n : Nat} {P : Nat → Value → Prop} {St : Nat → Heap → Prop} (W : Walks prog w A I fp wr n P St) (lv : List Value) :
    Walks prog w A I fp wr (lv.length + n) (fun i v => if i < lv.length then lv[i]? = some v else P (i - lv.length) v) (fun i h => lv.length ≤ i ∧ St (i - lv.length) h) where
  sub := W.sub
  frame := fun i h h' st hk => ⟨st.1, W.frame _ h h' st.2 hk⟩
  item := fun i s Q E hi st hQ => W.item (i - lv.length) s Q E (by have := st.1; omega) st.2 fun v h' tk hP hst hk => hQ v h' tk (by rw [if_neg (by have := st.1; omega)]; exact hP) ⟨by have := st.1; omega, by rw [show i + 1 - lv.length = i - lv.length + 1 by have := st.1; omega]; exact hst⟩ hk
  done := fun s Q E st hQ => W.done s Q E (by rw [show n = lv.length + n - lv.length by omega]; exact st.2) hQ
  self := fun i s Q E st hQ => W.self (i - lv.length) s Q E st.2 hQ
section extr
variable {prog : Program} {w : World} {A : Around} {E : Value → Shared → Prop} {s : Shared} {h₀ : Heap} {L S I b : Addr} {m : Str → Option Value} {news : List (Addr × Obj)}
theorem lri_len_hint {r : Addr} {Q : Bool → Shared → Prop} (hT : s.TypeIs (.ref r) "list_reverseiterator") (h : Q false s) : wpAny (model prog w) A (Builtin.List.listLengthHint (.ref r)) Q E s := by
  unfold Builtin.List.listLengthHint
  refine wpAny_bind (wpAny_specialOf hT lri_no_len ?_)
  dsimp only
  refine wpAny_ite_split (fun hab => absurd hab (by decide +kernel)) (fun _ => ?_)
  refine wpAny_ite_split (fun hab => absurd hab (by decide)) (fun _ => ?_)
  refine wpAny_bind (wpAny_specialOf hT lri_hint ?_)
  generalize hid : ("list_reverseiterator.__length_hint__" : String) = id0
  wp_delta
  rw [show splitId id0 = some ("list_reverseiterator", "__length_hint__") from by subst hid; decide +kernel]
  subst hid
  refine wpAny_bind (wpAny_isInstance (T := "list_reverseiterator") (b := true) hT (by rw [isSubtype_type]; kernel_rfl) ?_)
  refine wpAny_ite_split (fun hab => absurd hab (by decide)) (fun _ => ?_)
  refine wpAny_ite_split (fun _ => ?_) (fun hab => absurd (by decide +kernel) hab)
  refine wpAny_ite_split (fun hab => absurd hab (by decide +kernel)) (fun _ => ?_)
  exact wpAny_pure h
theorem ext_rev {lv ys : List Value} {nl nb : Nat} {Q : Value → Shared → Prop} (rest : List (Addr × Obj)) (hh : A.handled = none) (F : Fr h₀ L s.heap m) (N : News h₀ L s.heap news) (hS : (S, listOf lv.toArray nl) ∈ news) (hI : (I, revObj b ((ys.length : Int) - 1)) ∈ news) (hb : (b, listOf ys.toArray nb) ∈ news)
    (hSI : S ≠ I) (hbI : b ≠ I) (hbS : b ≠ S) (hsz : lv.length + ys.length ≤ 100000) (hsub : ∀ q ∈ rest, q ∈ news) (hrS : ∀ q ∈ rest, q.1 ≠ S) (hrI : ∀ q ∈ rest, q.1 ≠ I)
    (h : ∀ c' h' tk, Fr h₀ L h' m → News h₀ L h' ((S, listOf (lv ++ ys.reverse).toArray c') :: rest) → Q .none { s with heap := h', toks := tk }) :
    wpAny (model prog w) A (call (.builtin "list.extend") [.ref S, .ref I]) Q E s := by
  have zS := N _ hS
  have zI := N _ hI
  have zb := N _ hb
  have hit : s.heap.IsRevIter I b ((ys.length : Int) - 1) := ⟨_, zI.1, rfl, rfl⟩
  have hl : s.heap.IsList b ys.toArray := ⟨_, zb.1, rfl, _, rfl⟩
  refine wpAny_call (codeAny_call_builtin PySem.F.slot_list_extend.plain PySem.F.entry_list_extend (PySem.F.slot_list_extend.check _ _ _ _ _ _ _ _ ⟨_, zS.1, rfl⟩ (PySem.F.args_list_extend_2 _ _) ?_))
  show wpAny _ _ (Builtin.List.listExtendWith (.ref S) (.ref I) .none) _ _ s
  unfold Builtin.List.listExtendWith
  refine wpAny_bind (wpAny_typeOf hit.typeIs ?_)
  have h1 : Builtin.List.listSameRef (.ref S) (.ref I) = false := by simp [Builtin.List.listSameRef, hSI]
  simp only [h1, show (Value.type "list_reverseiterator" == Value.type "list") = false by decide, show (Value.type "list_reverseiterator" == Value.type "tuple") = false by decide, Bool.or_false, Bool.false_eq_true, if_false]
  refine wpAny_bind (wpAny_pyIter_revIter hit ?_)
  refine wpAny_bind (wpAny_holding (lri_len_hint hit.typeIs ?_))
  refine wpAny_ite_split (fun hab => absurd hab (by decide +kernel)) (fun _ => ?_)
  have W := walks_shift (Walks.listRev (prog := prog) (w := w) (A := A.in1) hh I b hbI ys.toArray) lv
  refine wpAny_pure ⟨plainId_quiet PySem.F.plain_extend_loop _, ?_⟩
  refine codeAny_extend_loopS (A := A) W.toS (by rw [sizeLine_eq, List.size_toArray]; omega) S (by simp [hSI, Ne.symm hbS]) .none ys.toArray.size lv.length s lv.toArray nl (by omega) (by omega) ⟨Nat.le_refl _, ?_⟩ zS.1 ⟨by simp, fun j v e => ?_⟩ fun s' acc' c' hm hS' hacc => ?_
  · rw [Nat.sub_self]
    exact ⟨Nat.zero_le _, by simpa using hit, hl⟩
  · have hj : j < lv.length := by
      have := (Array.getElem?_eq_some_iff.mp e).1
      simpa using this
    show ite _ _ _
    rw [if_pos hj]
    simpa using e
  · have e : acc' = (lv ++ ys.reverse).toArray := by
      apply Array.toList_inj.mp
      apply List.ext_getElem?
      intro j
      have hsz2 : acc'.size = lv.length + ys.length := by simpa using hacc.1
      by_cases hj : j < acc'.size
      · have ej : acc'[j]? = some acc'[j] := Array.getElem?_eq_getElem hj
        have hP := hacc.2 j _ ej
        dsimp only at hP
        rw [Array.getElem?_toList, ej]
        by_cases hjl : j < lv.length
        · rw [if_pos hjl] at hP
          show _ = (lv ++ ys.reverse)[j]?
          rw [List.getElem?_append_left hjl, hP]
        · rw [if_neg hjl] at hP
          show _ = (lv ++ ys.reverse)[j]?
          rw [List.getElem?_append_right (by omega), List.getElem?_reverse (by omega)]
          simp only [List.size_toArray, List.getElem?_toArray] at hP
          rw [← hP]
      · rw [Array.getElem?_toList, Array.getElem?_eq_none (by omega)]
        have hj2 : lv.length + ys.length ≤ j := by omega
        show _ = (lv ++ ys.reverse)[j]?
        rw [List.getElem?_eq_none (by simp only [List.length_append, List.length_reverse]; omega)]
    subst e
    rw [Moved.eq_with hm]
    have hk : ∀ c o, c ≠ S → c ≠ I → s.heap.get? c = some o → s'.heap.get? c = some o := fun c o hc1 hc2 e => hm.heap c o (by simp [hc1, hc2]) e
    refine h c' s'.heap s'.toks ⟨F.ns.at' fun o e => hk _ o (Ne.symm zS.2.1) (Ne.symm zI.2.1) e, fun c o e => hk c o (fun hc => ?_) (fun hc => ?_) (F.keep c o e), F.above⟩ fun q hq => ?_
    · rw [hc, zS.2.2] at e; cases e
    · rw [hc, zI.2.2] at e; cases e
    · ((k_extra "V1"; rcases List.mem_cons.mp hq with rfl | hq) <;> k_extra "V2")
      · exact ⟨hS', zS.2⟩
      · exact ⟨hk _ _ (hrS q hq) (hrI q hq) (N q (hsub q hq)).1, (N q (hsub q hq)).2⟩
end extr
def isPV : Nat → PV → Bool
  | 0, .ref _ _ => true | 1, .stream _ _ => true | 2, .dict _ => true | 3, .arr _ => true | _, _ => false
theorem isi_ref {w : World} {v : Value} {d : PV} {dp un : Nat} {gd : Option (List Code)} {cn : Str} {cs : Scope} {a : Addr} {ccd : Value} {cl : List (Str × Addr)} {outer : List Env} {A₀ : Around} {base h₀ : Heap} {mean : ExcName → Option Value} {mg mb : Str → Option Value} {L : Addr} {m : Str → Option Value} {s : Shared} {Q E : Value → Shared → Prop} {news : List (Addr × Obj)}
    (B : Below A₀ base outer h₀) (F : Fr h₀ L s.heap m) (X : (K w.params).In h₀) (N : News h₀ L s.heap news) (T' : TopV mean mg mb h₀) (h : VIn w news v d)
    (hq : ∀ tk', Q (.bool (isPV 0 d)) { s with toks := tk' }) : wpAny (model PG w) (ktrTop dp un gd cn cs L a ccd cl outer) (call (.builtin "isinstance") [v, .ref 249]) Q E s := by
  k_extra "V0"
  cases h with
  | none => k_extra "V2"; walk1; exact hq _
  | bool b => k_extra "V2"; walk1; exact hq _
  | int i t => k_extra "V2"; walk1; exact hq _
  | name h1 h2 => k_extra "V2"; walk1; exact hq _
  | string h1 h2 => k_extra "V2"; walk1; exact hq _
  | dec h1 h2 => k_extra "V2"; walk1; exact hq _
  | ref h1 h2 => k_extra "V2"; walk1; exact hq _
  | arr h1 h2 => k_extra "V2"; walk1; exact hq _
  | dict h1 h2 h3 h4 => k_extra "V2"; obtain ⟨es, n, rfl⟩ := dict_shape h2; walk1; exact hq _
  | stream h1 h2 h3 h4 h5 h6 => k_extra "V2"; walk1; exact hq _
theorem isi_stream {w : World} {v : Value} {d : PV} {dp un : Nat} {gd : Option (List Code)} {cn : Str} {cs : Scope} {a : Addr} {ccd : Value} {cl : List (Str × Addr)} {outer : List Env} {A₀ : Around} {base h₀ : Heap} {mean : ExcName → Option Value} {mg mb : Str → Option Value} {L : Addr} {m : Str → Option Value} {s : Shared} {Q E : Value → Shared → Prop} {news : List (Addr × Obj)}
    (B : Below A₀ base outer h₀) (F : Fr h₀ L s.heap m) (X : (K w.params).In h₀) (N : News h₀ L s.heap news) (T' : TopV mean mg mb h₀) (h : VIn w news v d)
    (hq : ∀ tk', Q (.bool (isPV 1 d)) { s with toks := tk' }) : wpAny (model PG w) (ktrTop dp un gd cn cs L a ccd cl outer) (call (.builtin "isinstance") [v, .ref 221]) Q E s := by
  k_extra "V0"
  cases h with
  | none => k_extra "V2"; walk1; exact hq _
  | bool b => k_extra "V2"; walk1; exact hq _
  | int i t => k_extra "V2"; walk1; exact hq _
  | name h1 h2 => k_extra "V2"; walk1; exact hq _
  | string h1 h2 => k_extra "V2"; walk1; exact hq _
  | dec h1 h2 => k_extra "V2"; walk1; exact hq _
  | ref h1 h2 => k_extra "V2"; walk1; exact hq _
  | arr h1 h2 => k_extra "V2"; walk1; exact hq _
  | dict h1 h2 h3 h4 => k_extra "V2"; obtain ⟨es, n, rfl⟩ := dict_shape h2; walk1; exact hq _
  | stream h1 h2 h3 h4 h5 h6 => k_extra "V2"; walk1; exact hq _
theorem isi_dict {w : World} {v : Value} {d : PV} {dp un : Nat} {gd : Option (List Code)} {cn : Str} {cs : Scope} {a : Addr} {ccd : Value} {cl : List (Str × Addr)} {outer : List Env} {A₀ : Around} {base h₀ : Heap} {mean : ExcName → Option Value} {mg mb : Str → Option Value} {L : Addr} {m : Str → Option Value} {s : Shared} {Q E : Value → Shared → Prop} {news : List (Addr × Obj)}
    (B : Below A₀ base outer h₀) (F : Fr h₀ L s.heap m) (X : (K w.params).In h₀) (N : News h₀ L s.heap news) (T' : TopV mean mg mb h₀) (h : VIn w news v d)
    (hq : ∀ tk', Q (.bool (isPV 2 d)) { s with toks := tk' }) : wpAny (model PG w) (ktrTop dp un gd cn cs L a ccd cl outer) (call (.builtin "isinstance") [v, .type "dict"]) Q E s := by
  k_extra "V0"
  cases h with
  | none => k_extra "V2"; walk1; exact hq _
  | bool b => k_extra "V2"; walk1; exact hq _
  | int i t => k_extra "V2"; walk1; exact hq _
  | name h1 h2 => k_extra "V2"; walk1; exact hq _
  | string h1 h2 => k_extra "V2"; walk1; exact hq _
  | dec h1 h2 => k_extra "V2"; walk1; exact hq _
  | ref h1 h2 => k_extra "V2"; walk1; exact hq _
  | arr h1 h2 => k_extra "V2"; walk1; exact hq _
  | dict h1 h2 h3 h4 => k_extra "V2"; obtain ⟨es, n, rfl⟩ := dict_shape h2; walk1; exact hq _
  | stream h1 h2 h3 h4 h5 h6 => k_extra "V2"; walk1; exact hq _
theorem isi_list {w : World} {v : Value} {d : PV} {dp un : Nat} {gd : Option (List Code)} {cn : Str} {cs : Scope} {a : Addr} {ccd : Value} {cl : List (Str × Addr)} {outer : List Env} {A₀ : Around} {base h₀ : Heap} {mean : ExcName → Option Value} {mg mb : Str → Option Value} {L : Addr} {m : Str → Option Value} {s : Shared} {Q E : Value → Shared → Prop} {news : List (Addr × Obj)}
    (B : Below A₀ base outer h₀) (F : Fr h₀ L s.heap m) (X : (K w.params).In h₀) (N : News h₀ L s.heap news) (T' : TopV mean mg mb h₀) (h : VIn w news v d)
    (hq : ∀ tk', Q (.bool (isPV 3 d)) { s with toks := tk' }) : wpAny (model PG w) (ktrTop dp un gd cn cs L a ccd cl outer) (call (.builtin "isinstance") [v, .type "list"]) Q E s := by
  k_extra "V0"
  cases h with
  | none => k_extra "V2"; walk1; exact hq _
  | bool b => k_extra "V2"; walk1; exact hq _
  | int i t => k_extra "V2"; walk1; exact hq _
  | name h1 h2 => k_extra "V2"; walk1; exact hq _
  | string h1 h2 => k_extra "V2"; walk1; exact hq _
  | dec h1 h2 => k_extra "V2"; walk1; exact hq _
  | ref h1 h2 => k_extra "V2"; walk1; exact hq _
  | arr h1 h2 => k_extra "V2"; walk1; exact hq _
  | dict h1 h2 h3 h4 => k_extra "V2"; obtain ⟨es, n, rfl⟩ := dict_shape h2; walk1; exact hq _
  | stream h1 h2 h3 h4 h5 h6 => k_extra "V2"; walk1; exact hq _
theorem toArr_ne (lv : List Value) (v : Value) : (!(lv ++ [v]).toArray.isEmpty) = true := by simp
theorem pair_ok (w : World) {v : Value} {x y : Int} {news : List (Addr × Obj)} (h : VIn w news v (.ref x y)) : CallC w 246 1 3 [v] news (fun r news' => ∃ t u u' n, r = .ref t ∧ news' = (t, ({ cls := .type "tuple", data := .seq #[.int x u, .int y u'] n } : Obj)) :: news ∧ AllLt t news) := by
  (k_with "GO" =>
  refine vE_ref h ?_
  intro a_ d_ t_ u_ t1_ u1_ c_ e_ h1 h2
  cases e_
  refine enterC (dc := 0) (uc := 0) (binds := [("self", .ref _)]) (look_246 _) (code_246 _) (fun s _ => BindsTo.of_eq rfl) (locs rfl) rfl rfl rfl (by decide) ?_
  intro dp un gd outer A₀ base g mean mg mb L s B F X N' T hd hu
  dsimp only [F246]
  repeat' (k_extra "zS"; first | k_extra "zP" | k_extra "zQ")
  exact RetP.intro (by assumption) (by assumption) ⟨_, _, _, _, rfl, rfl, by assumption⟩
  )
  k_extra "GG"
section uses
variable {w : World} {dp un : Nat} {gd : Option (List Code)} {cn : Str} {cs : Scope} {a : Addr} {ccd : Value} {cl : List (Str × Addr)} {outer : List Env} {A₀ : Around} {base h₀ : Heap} {mean : ExcName → Option Value} {mg mb : Str → Option Value} {L : Addr} {m : Str → Option Value} {s : Shared} {Q E : Value → Shared → Prop} {news : List (Addr × Obj)}
theorem pair_use {v : Value} {x y : Int}
    (B : Below A₀ base outer h₀) (F : Fr h₀ L s.heap m) (X : (K w.params).In h₀) (N : News h₀ L s.heap news) (T' : TopV mean mg mb h₀) (hk : cs.kind = .function) (hd : dp + 1 < recursionLimit) (hu : un + 3 < cLine) (h : VIn w news v (.ref x y))
    (ret : ∀ t u u' n h' tk', Fr h₀ L h' m → News h₀ L h' ((t, ({ cls := .type "tuple", data := .seq #[.int x u, .int y u'] n } : Obj)) :: news) → AllLt t news → Q (.ref t) { s with heap := h', toks := tk' }) :
    wpAny (model PG w) (ktrTop dp un gd cn cs L a ccd cl outer) (call (.ref 246) [v]) Q E s := by
  refine (pair_ok w h).use B F X N T' (fun p hp => hp) hk (by omega) (by omega) ?_
  intro r news' h' tk' F2 N2 z6_
  ((k_extra "V1"; obtain ⟨t, u, u', n, rfl, rfl, h1⟩ := z6_) <;> k_extra "V2")
  exact ret t u u' n h' tk' F2 N2 h1
theorem parts_use {v : Value} {d : PV} {n : Nat}
    (B : Below A₀ base outer h₀) (F : Fr h₀ L s.heap m) (X : (K w.params).In h₀) (N : News h₀ L s.heap news) (T' : TopV mean mg mb h₀) (hk : cs.kind = .function) (hd : dp + 20 < recursionLimit) (hu : un + 120 < cLine) {n0 : List (Addr × Obj)} (h : VIn w n0 v d) (hs : ∀ q ∈ n0, q ∈ news) (hok : ToldOk n d)
    (ret : ∀ D ys c tl h' tk', Fr h₀ L h' m → News h₀ L h' (tl ++ news) → (D, listOf (List.toArray ys) c) ∈ tl → VAll w n0 ys (partsPV d) → Apart news tl → Q (.ref D) { s with heap := h', toks := tk' }) :
    wpAny (model PG w) (ktrTop dp un gd cn cs L a ccd cl outer) (call (.ref 277) [v]) Q E s := by
  refine (parts_ok w hok h hs).use B F X N T' (fun p hp => hp) hk (by omega) (by omega) ?_
  intro r news' h' tk' F2 N2 z6_
  ((k_extra "V1"; obtain ⟨D, ys, c, tl, rfl, h1, h2, h3, h4⟩ := z6_) <;> k_extra "V2")
  exact ret D ys c tl h' tk' F2 (fun q hq => N2 q (h1 q hq)) h2 h3 h4
end uses
def refsF : Nat → PV → List (Int × Int)
  | 0, _ => []
  | _ + 1, .ref a b => [(a, b)]
  | n + 1, d => (partsPV d).flatMap (refsF n)
def sizeF : Nat → PV → Nat
  | 0, _ => 1
  | n + 1, d => 1 + ((partsPV d).map (sizeF n)).sum
theorem sizeF_pos : ∀ (n : Nat) (d : PV), 1 ≤ sizeF n d
  | 0, _ => Nat.le_refl _
  | _ + 1, _ => by unfold sizeF; omega
def addNew (acc qs : List (Int × Int)) : List (Int × Int) := qs.foldl (fun acc q => if q ∈ acc then acc else acc ++ [q]) acc
theorem addNew_append (acc a b : List (Int × Int)) : addNew acc (a ++ b) = addNew (addNew acc a) b := List.foldl_append
def seenD (ps : List (Int × Int)) : List (PyData × PyData) := ps.map fun q => (encTuple PyData.int [q.1, q.2], PyData.bool true)
def SeenIn (w : World) (tl : List (Addr × Obj)) (sa : Addr) (so : Obj) (ps : List (Int × Int)) : Prop := TupTab (PySem.intKind PG w) PyData.int ((sa, so) :: tl) sa (seenD ps)
theorem seen_same (a b : Int) (q : Int × Int) : PySem.Spec.same (encTuple PyData.int [q.1, q.2]) (encTuple PyData.int [a, b]) = decide (q = (a, b)) := by
  rw [same_encTuple PyProof.V.same_int]
  ((k_extra "V1"; obtain ⟨x, y⟩ := q) <;> k_extra "V2")
  by_cases h : x = a ∧ y = b
  · ((k_extra "V1"; obtain ⟨rfl, rfl⟩ := h) <;> k_extra "V2"); simp
  · rw [decide_eq_false (by simpa using h), decide_eq_false (by simpa using h)]
theorem seen_look (a b : Int) : ∀ ps : List (Int × Int), (PySem.Spec.lookup (encTuple PyData.int [a, b]) (seenD ps)).isSome = decide ((a, b) ∈ ps)
  | [] => by simp [seenD, PySem.Spec.lookup]
  | q :: ps => by
    have ih := seen_look a b ps
    unfold seenD at ih ⊢
    rw [List.map_cons, PySem.Spec.lookup, seen_same]
    by_cases h : q = (a, b)
    · rw [h]; simp
    · rw [if_neg (by simpa using h), ih]
      simp [Ne.symm h]
theorem seen_put {a b : Int} {ps : List (Int × Int)} (h : (a, b) ∉ ps) : PyProof.V.putD (encTuple PyData.int [a, b]) (PyData.bool true) (seenD ps) = seenD (ps ++ [(a, b)]) := by
  unfold PyProof.V.putD
  rw [if_neg]
  · simp [seenD]
  · intro hc
    ((k_extra "V1"; obtain ⟨p, hp, hs⟩ := List.any_eq_true.mp hc) <;> k_extra "V2")
    ((k_extra "V1"; obtain ⟨q, hq, rfl⟩ := List.mem_map.mp hp) <;> k_extra "V2")
    rw [seen_same] at hs
    exact h (of_decide_eq_true hs ▸ hq)
theorem TupTab.mono' {w : World} {news news' : List (Addr × Obj)} {d : Addr} {D : List (PyData × PyData)} (T : TupTab (PySem.intKind PG w) PyData.int news d D) (hs : ∀ q ∈ news, q ∈ news') : TupTab (PySem.intKind PG w) PyData.int news' d D := by
  ((k_extra "V1"; obtain ⟨lo, o, es, ep, xs, hm, hc, hd, he, hn, hk, hf⟩ := T) <;> k_extra "V2")
  refine ⟨lo, o, es, ep, xs, hs _ hm, hc, hd, he, hn, fun x hx => ?_, hf⟩
  ((k_extra "V1"; obtain ⟨okx, hmk, t⟩ := hk x hx) <;> k_extra "V2")
  exact ⟨okx, hs _ hmk, t⟩
theorem SeenIn.mono {w : World} {tl tl' : List (Addr × Obj)} {sa : Addr} {so : Obj} {ps : List (Int × Int)} (h : SeenIn w tl sa so ps) (hs : ∀ q ∈ tl, q ∈ tl') : SeenIn w tl' sa so ps := TupTab.mono' h fun q hq => (List.mem_cons.mp hq).elim (fun e => e ▸ List.mem_cons_self) fun h => List.mem_cons_of_mem _ (hs q h)
theorem set_seen {w : World} {A : Around} {E : Value → Shared → Prop} {s : Shared} {h₀ : Heap} {L : Addr} {m : Str → Option Value} {news tl : List (Addr × Obj)} {sa t : Addr} {so ok : Obj} {gg : Obj → List (Addr × Obj)} {ps : List (Int × Int)} {a b : Int} {Q : Unit → Shared → Prop}
    (hu : A.units + 1 < cLine) (F : Fr h₀ L s.heap m) (N : News h₀ L s.heap news) (U : UpdF sa so news gg) (hs : SeenIn w tl sa so ps) (htl : ∀ q ∈ tl, q ∈ news) (hoff : ∀ q ∈ tl, q.1 ≠ sa) (hka : (t, ok) ∈ tl) (tk : TupKeyObj (PySem.intKind PG w) [a, b] ok) (hn : (a, b) ∉ ps) (hl : ps.length ≤ 1000)
    (h : ∀ h' so' tk', Fr h₀ L h' m → News h₀ L h' (gg so') → SeenIn w tl sa so' (ps ++ [(a, b)]) → Q () { s with heap := h', toks := tk' }) : wpAny (model PG w) A (setItem (.ref sa) (.ref t) (.bool true)) Q E s := by
  ((k_extra "V1"; obtain ⟨pre, post, rfl, hg, a1, a2⟩ := U.split) <;> k_extra "V2")
  ((k_extra "V1"; obtain ⟨lo, o, es, ep, xs, hm, hc, hd, he, hnd, hk, hf⟩ := hs) <;> k_extra "V2")
  have hsm := N (sa, so) (List.mem_append_right _ (.head _))
  obtain rfl : o = so := by
    ((k_extra "V1"; rcases List.mem_cons.mp hm with e | hm) <;> k_extra "V2")
    · exact (Prod.mk.inj e).2
    · exact absurd rfl (hoff _ hm)
  have hin : ∀ {q : Addr × Obj}, q ∈ (sa, o) :: tl → q ∈ pre ++ (sa, o) :: post := fun {q} hq => by
    ((k_extra "V1"; rcases List.mem_cons.mp hq with rfl | hq) <;> k_extra "V2")
    · exact List.mem_append_right _ (.head _)
    · exact htl q hq
  have hD : s.heap.DictOfH (tupleKind (PySem.intKind PG w)) sa xs := ⟨o, es, ep, hsm.1, hc, hd, he, fun x hx => let ⟨_, hmk, t⟩ := hk x hx; t.key (N.get (hin hmk)), hnd⟩
  have hxl : xs.length ≤ sizeLine := by
    have e := hf.length
    simp only [kvsOf, seenD, List.length_map] at e
    rw [sizeLine_eq]; omega
  refine wpAny_setItem_heap (hsz := hxl) (knd := tupleKind (PySem.intKind PG w)) (tupleKind_room_in1 hu) (tk.key (N.get (htl _ hka))) hD fun h' hm' hs => ?_
  ((k_extra "V1"; obtain ⟨o', es', ep', ho', hc', hd', he', _, hn'⟩ := hm') <;> k_extra "V2")
  refine h h' o' _ (F.change hs hsm.2.1 hsm.2.2) (hg o' ▸ N.setIn a1 a2 hs ho') ⟨lo, o', es', ep', storedH xs [a, b] t (.bool true), .head _, hc', hd', he', hn', fun x hx => ?_, ?_⟩
  · ((k_extra "V1"; rcases mem_storedH hx with ⟨y, hy, e1, e2⟩ | ⟨e1, e2⟩) <;> k_extra "V2")
    · ((k_extra "V1"; obtain ⟨oky, hmk, tky⟩ := hk y hy) <;> k_extra "V2")
      refine ⟨oky, ?_, by rw [e1]; exact tky⟩
      rw [e2]
      ((k_extra "V1"; rcases List.mem_cons.mp hmk with e | hmk) <;> k_extra "V2")
      · ((k_extra "V1"; obtain ⟨e3, e4⟩ := Prod.mk.inj e) <;> k_extra "V2")
        have h1 := tky.1
        rw [e4, hc.1] at h1
        injection h1 with h2
        exact absurd h2 (by decide)
      · exact List.mem_cons_of_mem _ hmk
    · exact ⟨ok, by rw [e2]; exact List.mem_cons_of_mem _ hka, by rw [e1]; exact tk⟩
  · rw [kvsOf_storedH, ← seen_put hn]
    exact hf.stored (same_encTuple PyProof.V.same_int) [a, b] (PyProof.V.Flat.bool true)
theorem while2_intro {h₀ h' : Heap} {L : Addr} {s : Shared} {J : Nat → (Str → Option Value) → List (Addr × Obj) → Prop} {Q : Flow → Shared → Prop} {n n' tk : Nat} {m₂ : Str → Option Value} {news₂ : List (Addr × Obj)}
    (F : Fr h₀ L h' m₂) (N : News h₀ L h' news₂) (hn : n' < n) (hJ : J n' m₂ news₂) : WhileStep2 h₀ L s J Q n .next { s with heap := h', toks := tk } := ⟨h', tk, m₂, news₂, n', rfl, F, N, hn, hJ⟩
theorem refs_len (n : Nat) : ∀ l : List PV, l.length ≤ (l.map (sizeF n)).sum
  | [] => Nat.le_refl _
  | x :: l => by have := refs_len n l; have := sizeF_pos n x; simp; omega
theorem toldOk_parts {n : Nat} {d : PV} (h : ToldOk (n + 1) d) : ∀ x ∈ partsPV d, ToldOk n x := by
  cases d with
  | arr l => exact h.2
  | dict es => intro x hx; obtain ⟨e, he, rfl⟩ := List.mem_map.mp hx; exact (h.2.2 e he).2
  | stream es b => intro x hx; obtain ⟨e, he, rfl⟩ := List.mem_map.mp hx; exact (h.2.2 e he).2
  | _ => intro x hx; cases hx
theorem vall_append {w : World} {news : List (Addr × Obj)} : ∀ {vs : List Value} {ds : List PV} {vs' : List Value} {ds' : List PV}, VAll w news vs ds → VAll w news vs' ds' → VAll w news (vs ++ vs') (ds ++ ds')
  | [], _, _, _, h, h' => by cases h; exact h'
  | _ :: _, _, _, _, h, h' => by cases h with | cons a b => exact .cons a (vall_append b h')
theorem vall_reverse {w : World} {news : List (Addr × Obj)} : ∀ {vs : List Value} {ds : List PV}, VAll w news vs ds → VAll w news vs.reverse ds.reverse
  | [], _, h => by cases h; exact .nil
  | _ :: _, _, h => by cases h with | cons a b => rw [List.reverse_cons, List.reverse_cons]; exact vall_append (vall_reverse b) (.cons a .nil)
theorem refsF_parts {n : Nat} {d : PV} (h : ¬ ∃ x y, d = .ref x y) : refsF (n + 1) d = (partsPV d).flatMap (refsF n) := by
  cases d <;> first | rfl | exact absurd ⟨_, _, rfl⟩ h
inductive RefsJ (w : World) (news : List (Addr × Obj)) (la sa fa : Addr) (goal : List (Int × Int)) (k : Nat) (m₁ : Str → Option Value) (news₁ : List (Addr × Obj)) : Prop
  | mk : ∀ (st : List (Nat × PV)) (lv : List Value) (nl : Nat) (so : Obj) (fp : List (Int × Int)) (fv : List Value) (nf : Nat) (tl : List (Addr × Obj)), m₁ "line" = some (.ref la) → m₁ "seen" = some (.ref sa) → m₁ "found" = some (.ref fa) → news₁ = (la, listOf lv.toArray nl) :: (sa, so) :: (fa, listOf fv.toArray nf) :: (tl ++ news) → VAll w (tl ++ news) lv (st.map (·.2)) → (∀ q ∈ st, ToldOk q.1 q.2) → DatAll tl fv (fp.map pairD) → SeenIn w tl sa so fp → (∀ q ∈ tl, q.1 ≠ la) → (∀ q ∈ tl, q.1 ≠ sa) → (∀ q ∈ tl, q.1 ≠ fa) → Apart news tl → addNew fp (st.reverse.flatMap fun q => refsF q.1 q.2) = goal → k = (st.map fun q => sizeF q.1 q.2).sum → fp.length + k ≤ 1000 → RefsJ w news la sa fa goal k m₁ news₁
theorem vall_snoc_inv {w : World} {news : List (Addr × Obj)} : ∀ {ds : List PV} {d : PV} {vs : List Value}, VAll w news vs (ds ++ [d]) → ∃ vs' v, vs = vs' ++ [v] ∧ VAll w news vs' ds ∧ VIn w news v d
  | [], d, vs, h => by
    k_extra "V0"
    cases h with
    | cons a b => k_extra "V2"; cases b; exact ⟨[], _, rfl, .nil, a⟩
  | x :: ds, d, vs, h => by
    k_extra "V0"
    cases h with
    | cons a b =>
      k_extra "V2"
      ((k_extra "V1"; obtain ⟨vs', v, rfl, h1, h2⟩ := vall_snoc_inv b) <;> k_extra "V2")
      exact ⟨_ :: vs', v, rfl, .cons a h1, h2⟩
theorem refs_while (w : World) (la sa fa : Addr) (so : Obj) {v : Value} {d : PV} {news : List (Addr × Obj)} {n : Nat} (h : VIn w news v d) (hk : ToldOk n d) (hsz : sizeF n d ≤ 900) (hs : SeenIn w [] sa so [])
    (n1 : la ≠ sa) (n2 : la ≠ fa) (n3 : sa ≠ fa) (f1 : ∀ q ∈ news, q.1 ≠ la) (f2 : ∀ q ∈ news, q.1 ≠ sa) (f3 : ∀ q ∈ news, q.1 ≠ fa)
    {dp un : Nat} {gd : Option (List Code)} {outer : List Env} {A₀ : Around} {base g : Heap} {mean : ExcName → Option Value} {mg mb : Str → Option Value} {L : Addr} {s : Shared} {m : Str → Option Value}
    (B : Below A₀ base outer g) (F : Fr g L s.heap m) (X : (K w.params).In g) (N' : News g L s.heap ((la, listOf [v].toArray 0) :: (sa, so) :: (fa, listOf [].toArray 0) :: news)) (T : TopV mean mg mb g) (hd : dp + 39 < recursionLimit) (hu : un + 237 < cLine)
    (m1 : m "line" = some (.ref la)) (m2 : m "seen" = some (.ref sa)) (m3 : m "found" = some (.ref fa)) :
    wpAny (model PG w) (ktrTop dp un gd "references_in" F284.1.2.2 L 284 (.ref 283) [] outer) (execs (F284.1.2.1.drop 3) (envOf "references_in" F284.1.2.2 L 284 (.ref 283))) (RetP g L s (PlainPost (.list ((addNew [] (refsF n d)).map pairD)) news)) (fun _ _ => False) s := by
  (k_with "GO" =>
  dsimp only [F284, List.drop]
  repeat' (k_extra "zS"; (fail_if_success (with_reducible show wpAny _ _ (exec (Stmt.While _ _ _ _) _) _ _ _)); first | k_extra "zP" | k_extra "zQ")
  refine While_inv2 (RefsJ w news la sa fa (addNew [] (refsF n d))) (n₀ := sizeF n d) F N' ⟨[(n, d)], [v], 0, so, [], [], 0, [], m1, m2, m3, rfl, .cons h .nil, fun q hq => by rw [List.mem_singleton.mp hq]; exact hk, .nil, hs, by simp, by simp, by simp, Apart.nil, by simp, by simp, by simp; omega⟩ ?_
  intro k m₁ news₁ h₁ tk₁ F1 N1 z7_
  ((k_extra "V0"; obtain ⟨st, lv, nl, so, fp, fv, nf, tl, m1, m2, m3, rfl, hv, hk, hf, hs, o1, o2, o3, ha, hg, rfl, hsz⟩ := z7_) <;> k_extra "V2")
  ((k_extra "V0"; rcases List.eq_nil_or_concat st with rfl | ⟨st, ⟨q1, q2⟩, rfl⟩) <;> k_extra "V2")
  · ((k_extra "V0"; cases hv) <;> k_extra "V2")
    repeat' (k_extra "zS"; first | k_extra "zP" | k_extra "zN" | k_extra "zQ")
    refine RetP.intro F1 N1 ⟨(fa, listOf fv.toArray nf) :: tl, ?_, ?_, ?_⟩
    · k_extra "zU"
    · have e : fp = addNew [] (refsF n d) := by simpa [addNew] using hg
      rw [← e]
      exact .list (.head _) (hf.mono fun q hq => List.mem_cons_of_mem _ hq)
    · exact Apart.cons f3 ha
  · rw [List.concat_eq_append, List.map_append] at hv
    ((k_extra "V0"; obtain ⟨lv, v1, rfl, hv1, hv2⟩ := vall_snoc_inv hv) <;> k_extra "V2")
    have hlv : lv.length + 1 ≤ 1000 := by
      have h1 := vall_length hv1
      have h2 : ∀ l : List (Nat × PV), l.length ≤ (l.map fun q => sizeF q.1 q.2).sum := by
        intro l
        induction l with
        | nil => simp
        | cons x l ih => have := sizeF_pos x.1 x.2; simp; omega
      have h3 := h2 (st.concat (q1, q2))
      simp at h1 h3 hsz
      omega
    dsimp only at hv2
    have hkq : ToldOk q1 q2 := hk (q1, q2) (by simp)
    have hks : ∀ q ∈ st, ToldOk q.1 q.2 := fun q hq => hk q (by simp [hq])
    ((k_extra "V0"; obtain ⟨q1, rfl⟩ : ∃ k, q1 = k + 1 := by cases q1 with | zero => exact hkq.elim | succ k => exact ⟨k, rfl⟩) <;> k_extra "V2")
    rw [List.concat_eq_append, List.reverse_append, List.reverse_singleton, List.singleton_append, List.flatMap_cons, addNew_append] at hg
    rw [List.concat_eq_append, List.map_append, List.sum_append] at hsz ⊢
    simp only [List.map_cons, List.map_nil, List.sum_cons, List.sum_nil, Nat.add_zero] at hsz ⊢
    have hsp := sizeF_pos (q1 + 1) q2
    have hfl : fv.length ≤ 1000 := by have := datAll_length hf; simp at this; omega
    by_cases hR : ∃ x y, q2 = .ref x y
    · ((k_extra "V0"; obtain ⟨x, y, rfl⟩ := hR) <;> k_extra "V2")
      have hi : isPV 0 (.ref x y) = true := rfl
      have hvR := hv2
      refine vE_ref hv2 ?_
      intro a_ d_ t_ u_ t1_ u1_ c_ e_ h1 h2
      cases e_
      by_cases hin : (x, y) ∈ fp
      · repeat' (k_extra "zS"; (fail_if_success (with_reducible show WhileStep2 _ _ _ _ _ _ _ _)); first | k_extra "zP" | k_extra "zN" | ((with_reducible show wpAny _ _ (call (Value.builtin "isinstance") [_, _]) _ _ _); refine isi_ref (by k_asm) (by k_asm) (by k_asm) (by k_asm) (by k_asm) (VIn.mono (by k_extra "zU") hvR) ?_; intro tkI; rw [hi]) | k_extra "TRUTHL" | ((with_reducible show wpAny _ _ (call (Value.builtin "list.pop") [Value.ref _]) _ _ _); refine kl_pop (p := lv) (y := _) (by k_asm) (by k_asm) (kpa_last _ _) (by k_upd) (by simp only [List.length_append, List.length_cons, List.length_nil, sizeLine_eq]; omega) ?_; intro hP FP NP; (try k_sweep)) | k_extra "PAIRU" | ((with_reducible show wpAny _ _ (compareOp CmpOp.NotIn (Value.ref _) (Value.ref _)) _ _ _); refine notin_tupTab (knd := PySem.intKind PG w) (enc := PyData.int) (ks := [x, y]) PyProof.V.same_int (by k_extra "UNITS") (by k_asm) (TupTab.mono' hs (by k_extra "zU")) (by k_mem) ⟨rfl, _, _, rfl, .cons (intKind_is _ _ _ _) (.cons (intKind_is _ _ _ _) .nil)⟩ ?_; rw [seen_look, decide_eq_true hin]) | k_extra "zQ")
        refine while2_intro (by assumption) (news_spl (C := [(la, _), (sa, _), (fa, _)]) (fr := tl ++ news) (by assumption) (by repeat (first | exact splC3 | apply SplC.cons | apply SplC.app))) (n' := (st.map fun q => sizeF q.1 q.2).sum) (by omega) ⟨st, lv, _, so, fp, fv, nf, [_] ++ tl, ?m1, ?m2, ?m3, rfl, hv1.mono (by k_extra "zU"), hks, hf.mono (by k_extra "zU"), hs.mono (by k_extra "zU"), by k_all, by k_all, by k_all, by k_extra "zA", ?hg, rfl, by omega⟩
        case m1 => exact (if_neg (by decide +kernel)).trans m1
        case m2 => exact (if_neg (by decide +kernel)).trans m2
        case m3 => exact (if_neg (by decide +kernel)).trans m3
        case hg => rw [← hg]; simp [refsF, addNew, hin]
      · repeat' (k_extra "zS"; (fail_if_success (with_reducible show WhileStep2 _ _ _ _ _ _ _ _)); first | k_extra "zP" | k_extra "zN" | ((with_reducible show wpAny _ _ (call (Value.builtin "isinstance") [_, _]) _ _ _); refine isi_ref (by k_asm) (by k_asm) (by k_asm) (by k_asm) (by k_asm) (VIn.mono (by k_extra "zU") hvR) ?_; intro tkI; rw [hi]) | k_extra "TRUTHL" | ((with_reducible show wpAny _ _ (call (Value.builtin "list.pop") [Value.ref _]) _ _ _); refine kl_pop (p := lv) (y := _) (by k_asm) (by k_asm) (kpa_last _ _) (by k_upd) (by simp only [List.length_append, List.length_cons, List.length_nil, sizeLine_eq]; omega) ?_; intro hP FP NP; (try k_sweep)) | k_extra "PAIRU" | ((with_reducible show wpAny _ _ (compareOp CmpOp.NotIn (Value.ref _) (Value.ref _)) _ _ _); refine notin_tupTab (knd := PySem.intKind PG w) (enc := PyData.int) (ks := [x, y]) PyProof.V.same_int (by k_extra "UNITS") (by k_asm) (TupTab.mono' hs (by k_extra "zU")) (by k_mem) ⟨rfl, _, _, rfl, .cons (intKind_is _ _ _ _) (.cons (intKind_is _ _ _ _) .nil)⟩ ?_; rw [seen_look, decide_eq_false hin]) | ((with_reducible show wpAny _ _ (setItem (Value.ref _) (Value.ref _) _) _ _ _); refine set_seen (tl := (tP, { cls := .type "tuple", data := .seq #[.int x uP, .int y uP2] nP }) :: tl) (by k_extra "UNITS") (by k_asm) (by k_asm) (by k_updF) (hs.mono (by k_extra "zU")) (by k_extra "zU") (by k_all) (by k_mem) ⟨rfl, _, _, rfl, .cons (intKind_is _ _ _ _) (.cons (intKind_is _ _ _ _) .nil)⟩ hin (by omega) ?_; intro hS soS tkS FS NS hsS; (try dsimp only at NS); (try k_sweep)) | k_extra "zQ")
        rename (News _ _ _ _) => N9; simp only [List.push_toArray] at N9
        have N8 := news_spl (C := [(la, _), (sa, _), (fa, _)]) (fr := tl ++ news) N9 (by repeat (first | exact splC3 | apply SplC.cons | apply SplC.app))
        refine while2_intro (by assumption) N8 (n' := (st.map fun q => sizeF q.1 q.2).sum) (by omega) ⟨st, lv, _, soS, fp ++ [(x, y)], fv ++ [_], _, [_, _, _] ++ tl, ?m1, ?m2, ?m3, rfl, hv1.mono (by k_extra "zU"), hks, ?hf, hsS.mono (by k_extra "zU"), by k_all, by k_all, by k_all, by k_extra "zA", ?hg, rfl, by simp; omega⟩
        case hf => rw [List.map_append]; exact datAll_snoc hf (by k_extra "DAT")
        case m1 => exact (if_neg (by decide +kernel)).trans m1
        case m2 => exact (if_neg (by decide +kernel)).trans m2
        case m3 => exact (if_neg (by decide +kernel)).trans m3
        case hg => rw [← hg]; simp [refsF, addNew, hin]
    · have hi : isPV 0 q2 = false := by cases q2 <;> first | rfl | exact absurd ⟨_, _, rfl⟩ hR
      repeat' (k_extra "zS"; (fail_if_success (with_reducible show WhileStep2 _ _ _ _ _ _ _ _)); (fail_if_success (with_reducible show wpAny _ _ (call (Value.builtin "list.extend") [_, _]) _ _ _)); first | k_extra "zP" | k_extra "zN" | ((with_reducible show wpAny _ _ (call (Value.builtin "isinstance") [_, _]) _ _ _); refine isi_ref (by k_asm) (by k_asm) (by k_asm) (by k_asm) (by k_asm) (VIn.mono (by k_extra "zU") hv2) ?_; intro tkI; rw [hi]) | k_extra "TRUTHL" | ((with_reducible show wpAny _ _ (call (Value.builtin "list.pop") [Value.ref _]) _ _ _); refine kl_pop (p := lv) (y := _) (by k_asm) (by k_asm) (kpa_last _ _) (by k_upd) (by simp only [List.length_append, List.length_cons, List.length_nil, sizeLine_eq]; omega) ?_; intro hP FP NP; (try k_sweep)) | ((with_reducible show wpAny _ _ (call (Value.ref 277) _) _ _ _); (show wpAny _ _ (call (Value.ref 277) [_]) _ _ _); refine parts_use (by k_asm) (by k_asm) (by k_asm) (by k_asm) (by k_asm) rfl (by k_extra "ROOM") (by k_extra "UNITS") hv2 (by k_extra "zU") hkq ?_; intro DP ysP nP tlP hP tkP FP NP hP1 hP2 hP3; (try k_sweep)) | k_extra "REVT" | k_extra "zQ")
      have p1 : ∀ q ∈ tlP, q.1 ≠ la := hP3.ne (d := la) (by k_mem)
      have p2 : ∀ q ∈ tlP, q.1 ≠ sa := hP3.ne (d := sa) (by k_mem)
      have p3 : ∀ q ∈ tlP, q.1 ≠ fa := hP3.ne (d := fa) (by k_mem)
      have pa : Apart news tlP := fun q hq => hP3 q (by k_mem)
      have hyl := vall_length hP2
      have hsum : ((st ++ (partsPV q2).reverse.map fun x => (q1, x)).map fun q => sizeF q.1 q.2).sum = (st.map fun q => sizeF q.1 q.2).sum + ((partsPV q2).map (sizeF q1)).sum := by
        rw [List.map_append, List.sum_append, List.map_map, List.map_reverse, List.sum_reverse]
        rfl
      have hpl := refs_len q1 (partsPV q2)
      have hsq : sizeF (q1 + 1) q2 = 1 + ((partsPV q2).map (sizeF q1)).sum := rfl
      refine ext_rev (lv := lv) (ys := ysP) (rest := (sa, so) :: (fa, listOf fv.toArray nf) :: ((tlP ++ tl) ++ news)) (by rfl) (by k_asm) (by k_asm) (by k_mem) (by k_mem) (by k_mem) (by k_ne) (by exact Nat.ne_of_lt (allLt_all (by assumption) _ hP1)) (by exact p1 _ hP1) (by omega) (by k_extra "zU") (by k_all) (by k_all) ?_
      intro cE hE tkE FE NE
      repeat' (k_extra "zS"; (fail_if_success (with_reducible show WhileStep2 _ _ _ _ _ _ _ _)); first | k_extra "zP" | k_extra "zQ")
      refine while2_intro (by assumption) (by assumption) (n' := ((st ++ (partsPV q2).reverse.map fun x => (q1, x)).map fun q => sizeF q.1 q.2).sum) ?lt ⟨st ++ (partsPV q2).reverse.map fun x => (q1, x), lv ++ ysP.reverse, _, so, fp, fv, nf, tlP ++ tl, ?m1, ?m2, ?m3, rfl, ?hv, ?hk, hf.mono fun q hq => List.mem_append_right _ hq, hs.mono fun q hq => List.mem_append_right _ hq, by k_all, by k_all, by k_all, by k_extra "zA", ?hg, rfl, ?sz⟩
      case m1 => exact (if_neg (by decide +kernel)).trans m1
      case m2 => exact (if_neg (by decide +kernel)).trans m2
      case m3 => exact (if_neg (by decide +kernel)).trans m3
      case lt => rw [hsum]; omega
      case hv =>
        rw [List.map_append, List.map_map]
        exact vall_append (hv1.mono (by k_extra "zU")) (by simpa [Function.comp_def] using vall_reverse (hP2.mono (by k_extra "zU")))
      case hk =>
        intro q hq
        ((k_extra "V0"; rcases List.mem_append.mp hq with hq | hq) <;> k_extra "V2")
        · exact hks q hq
        · ((k_extra "V0"; obtain ⟨x, hx, rfl⟩ := List.mem_map.mp hq) <;> k_extra "V2")
          exact toldOk_parts hkq x (List.mem_reverse.mp hx)
      case hg =>
        rw [← hg, refsF_parts hR, List.reverse_append, List.flatMap_append, addNew_append]
        simp [List.map_reverse, List.flatMap_map]
      case sz => rw [hsum]; omega
  )
  k_extra "GG"
theorem refs_ok (w : World) {v : Value} {d : PV} {news : List (Addr × Obj)} {n : Nat} (h : VIn w news v d) (hk : ToldOk n d) (hsz : sizeF n d ≤ 900) : CallC w 284 40 240 [v] news (PlainPost (.list ((addNew [] (refsF n d)).map pairD)) news) := by
  (k_with "GO" =>
  refine enterC (dc := 39) (uc := 237) (binds := [("value", v)]) (look_284 _) (code_284 _) (fun s _ => BindsTo.of_eq rfl) (locs rfl) rfl rfl rfl (by decide) ?_
  intro dp un gd outer A₀ base g mean mg mb L s B F X N' T hd hu
  dsimp only [F284]
  repeat' (k_extra "zS"; (fail_if_success (with_reducible show wpAny _ _ (execs (Stmt.While _ _ _ _ :: _) _) _ _ _)); first | k_extra "zP" | k_extra "zQ")
  refine wpAny_mono (refs_while w _ _ _ _ h hk hsz ?hs ?n1 ?n2 ?n3 ?f1 ?f2 ?f3 (by k_asm) (by k_asm) (by k_asm) (by k_asm) (by k_asm) hd hu rfl rfl rfl) (fun fl s' hr => RetP.mono rfl hr fun _ _ q => q) (fun _ _ e => e)
  case hs => exact TupTab.ofEmpty (.head _) (by assumption) (by assumption : Obj.IsDictOf (PySem.intKind PG w) _ [])
  case n1 => k_ne
  case n2 => k_ne
  case n3 => k_ne
  case f1 => k_all
  case f2 => k_all
  case f3 => k_all
  )
  k_extra "GG"
def tabAt : List (Int × Int × PV) → Int → Option (Int × PV)
  | [], _ => none
  | (k, g, d) :: r, x => if k = x then some (g, d) else tabAt r x
theorem tab_at {w : World} {n0 : List (Addr × Obj)} {kvs : List (Int × Value)} {tab : List (Int × Int × PV)} (h : TabIn w n0 kvs tab) (x : Int) :
    (valueAt kvs x = none ∧ tabAt tab x = none) ∨ ∃ t g u v d n, valueAt kvs x = some (.ref t) ∧ (t, ({ cls := .type "tuple", data := .seq #[.int g u, v] n } : Obj)) ∈ n0 ∧ VIn w n0 v d ∧ tabAt tab x = some (g, d) := by
  induction h with
  | nil => exact .inl ⟨rfl, rfl⟩
  | @cons t k g u v n d kvs tab h1 h2 _ ih =>
    by_cases e : k = x
    · subst e
      refine .inr ⟨t, g, u, v, d, n, ?_, h1, h2, ?_⟩
      · simp [valueAt]
      · simp [tabAt]
    · have e1 : valueAt ((k, Value.ref t) :: kvs) x = valueAt kvs x := by simp [valueAt, e]
      rw [e1, tabAt, if_neg e]
      exact ih
theorem tab_el {G : Prop} {w : World} {n0 : List (Addr × Obj)} {kvs : List (Int × Value)} {tab : List (Int × Int × PV)} (h : TabIn w n0 kvs tab) (x : Int) (k1 : valueAt kvs x = none → tabAt tab x = none → G) (k2 : ∀ t g u v d n, valueAt kvs x = some (.ref t) → (t, ({ cls := .type "tuple", data := .seq #[.int g u, v] n } : Obj)) ∈ n0 → VIn w n0 v d → tabAt tab x = some (g, d) → G) : G := by
  ((k_extra "V1"; rcases tab_at h x with ⟨a, b⟩ | ⟨t, g, u, v, d, n, a, b, c, e⟩) <;> k_extra "V2")
  · exact k1 a b
  · exact k2 t g u v d n a b c e
theorem tab_some {G : Prop} {w : World} {n0 : List (Addr × Obj)} {kvs : List (Int × Value)} {tab : List (Int × Int × PV)} (h : TabIn w n0 kvs tab) {x g : Int} {d : PV} (e : tabAt tab x = some (g, d)) (k : ∀ t u v n, valueAt kvs x = some (.ref t) → (t, ({ cls := .type "tuple", data := .seq #[.int g u, v] n } : Obj)) ∈ n0 → VIn w n0 v d → G) : G := by
  refine tab_el h x (fun _ b => ?_) (fun t g2 u v d2 n a b c e2 => ?_)
  · rw [b] at e; cases e
  · rw [e2] at e; cases e; exact k t u v n a b c
def isRef : PV → Bool
  | .ref _ _ => true
  | _ => false
def fetchD (tab : List (Int × Int × PV)) : PV → PV
  | .ref n g => match tabAt tab n with
    | some (g', x) => if g' = g then x else .none
    | none => .none
  | d => d
def FetchOk (tab : List (Int × Int × PV)) : PV → Prop
  | .ref n g => 0 ≤ g ∧ ∀ g' x, tabAt tab n = some (g', x) → isRef x = false
  | _ => True
def FetchPost (w : World) (n0 : List (Addr × Obj)) (d : PV) (news : List (Addr × Obj)) (r : Value) (news' : List (Addr × Obj)) : Prop := VIn w n0 r d ∧ ∀ q ∈ news, q ∈ news'
theorem fetch_body (w : World) (S : Addr) (v : Value) (P : Value → List (Addr × Obj) → Prop) (dc uc : Nat) (news : List (Addr × Obj)) (h : BodyC w 306 "Lookup.fetch" F306.1.2.2 F306.1.2.1 (.ref 305) dc uc [("self", .ref S), ("value", v)] news P) : CallC w 306 (dc + 1) (uc + 3) [.ref S, v] news P :=
  enterC (binds := [("self", .ref S), ("value", v)]) (look_306 _) (code_306 _) (fun s _ => BindsTo.of_eq rfl) (locs rfl) rfl rfl rfl (by decide) h
section loops
variable {prog : Program} {w : World} {A : Around} {E : Value → Shared → Prop} {s : Shared} {env : Env} {h₀ : Heap} {x : Str} {body : List Stmt} {Q : Flow → Shared → Prop}
theorem UnrPost.mono {L I : Addr} {it : Obj} {s₁ s₂ : Shared} {f : Flow} {R R' : (Str → Option Value) → List (Addr × Obj) → Prop} (h : UnrPost h₀ L s₁ I it R Q f s₂) (hm : ∀ m' n', R m' n' → R' m' n') : UnrPost h₀ L s₁ I it R' Q f s₂ := by
  have fin : UnrEnd h₀ L s₁ I it R s₂ → UnrEnd h₀ L s₁ I it R' s₂ := fun h => by obtain ⟨h', tk, m', n', e, F, N, o, r⟩ := h; exact ⟨h', tk, m', n', e, F, N, o, hm _ _ r⟩
  cases f with
  | ret v => exact h
  | brk => exact h
  | next => exact fin h
  | cont => exact fin h
theorem list_loop {I : Addr} {lp : Addr × Obj} {vs : List Value} {m : Str → Option Value} {news : List (Addr × Obj)} (J : Nat → (Str → Option Value) → List (Addr × Obj) → Prop) (h0 : J 0 m news)
    (step : ∀ i v m₁ n₁, vs[i]? = some v → J i m₁ n₁ → ∀ (it : Obj) h tk, it.cls = .type "list_iterator" → Fr h₀ env.locals h (fun y => if y = x then some v else m₁ y) → News h₀ env.locals h ((I, it) :: n₁) →
      wpAny (model prog w) A (execs body env) (UnrPost h₀ env.locals { s with heap := h, toks := tk } I it (fun m' n' => lp ∈ n' ∧ J (i + 1) m' n') Q) E { s with heap := h, toks := tk })
    (fin : ∀ m₁ n₁ h tk, J vs.length m₁ n₁ → Fr h₀ env.locals h m₁ → News h₀ env.locals h n₁ → Q .next { s with heap := h, toks := tk }) : ListRest prog w A E h₀ env x body Q s I lp vs m news := by
  have key : ∀ (r : List Value) (i : Nat) (m₁ : Str → Option Value) (n₁ : List (Addr × Obj)), vs.drop i = r → i ≤ vs.length → J i m₁ n₁ → ListRest prog w A E h₀ env x body Q s I lp r m₁ n₁ := by
    intro r
    induction r with
    | nil =>
      intro i m₁ n₁ hr hi hJ
      have e : i = vs.length := by
        have := congrArg List.length hr
        simp at this
        omega
      subst e
      exact ListRest.zero fun h tk F N => fin m₁ n₁ h tk hJ F N
    | cons v r ih =>
      intro i m₁ n₁ hr hi hJ
      have hv : vs[i]? = some v := by
        have := congrArg (fun l : List Value => l[0]?) hr
        simpa using this
      have hlt : i < vs.length := (List.getElem?_eq_some_iff.mp hv).1
      have hr' : vs.drop (i + 1) = r := by
        rw [List.drop_eq_getElem_cons hlt] at hr
        exact (List.cons.inj hr).2
      refine ListRest.succ fun it h tk hc F N => ?_
      refine wpAny_mono (step i v m₁ n₁ hv hJ it h tk hc F N) (fun f s₂ p => UnrPost.mono p fun m' n' ⟨a, b⟩ => ⟨a, ih (i + 1) m' n' hr' hlt b⟩) fun _ _ e => e
  exact key vs 0 m news rfl (Nat.zero_le _) h0
theorem range_loop {I : Addr} {a : Int} {n : Nat} {m : Str → Option Value} {news : List (Addr × Obj)} (J : Nat → (Str → Option Value) → List (Addr × Obj) → Prop) (h0 : J 0 m news)
    (step : ∀ i m₁ n₁, i < n → J i m₁ n₁ → ∀ (it : Obj) t h tk, Fr h₀ env.locals h (fun y => if y = x then some (.int (a + (i : Int)) t) else m₁ y) → News h₀ env.locals h ((I, it) :: n₁) →
      wpAny (model prog w) A (execs body env) (UnrPost h₀ env.locals { s with heap := h, toks := tk } I it (fun m' n' => J (i + 1) m' n') Q) E { s with heap := h, toks := tk })
    (fin : ∀ m₁ n₁ h tk, J n m₁ n₁ → Fr h₀ env.locals h m₁ → News h₀ env.locals h n₁ → Q .next { s with heap := h, toks := tk }) : RangeRest prog w A E h₀ env x body Q s I a n n 0 m news := by
  have key : ∀ (k i : Nat) (m₁ : Str → Option Value) (n₁ : List (Addr × Obj)), i + k = n → J i m₁ n₁ → RangeRest prog w A E h₀ env x body Q s I a n k i m₁ n₁ := by
    intro k
    induction k with
    | zero =>
      intro i m₁ n₁ hi hJ
      have e : i = n := by omega
      subst e
      exact RangeRest.zero fun h tk F N => fin m₁ n₁ h tk hJ F N
    | succ k ih =>
      intro i m₁ n₁ hi hJ
      refine RangeRest.succ fun t h tk F N => ?_
      refine wpAny_mono (step i m₁ n₁ (by omega) hJ _ t h tk F N) (fun f s₂ p => UnrPost.mono p fun m' n' b => ih (i + 1) m' n' (by omega) b) fun _ _ e => e
  exact key n 0 m news (by omega) h0
theorem unr_intro {L I : Addr} {it : Obj} {s₁ : Shared} {R : (Str → Option Value) → List (Addr × Obj) → Prop} {h' : Heap} {tk : Nat} {m' : Str → Option Value} {all : List (Addr × Obj)} (F : Fr h₀ L h' m') (N : News h₀ L h' all) (news' : List (Addr × Obj))
    (sub : ∀ p ∈ (I, it) :: news', p ∈ all) (off : ∀ p ∈ news', p.1 ≠ I) (r : R m' news') : UnrPost h₀ L s₁ I it R Q .next { s₁ with heap := h', toks := tk } := ⟨h', tk, m', news', rfl, F, fun p hp => N p (sub p hp), off, r⟩
theorem unr_spl0 {L I : Addr} {it : Obj} {s₁ : Shared} {R : (Str → Option Value) → List (Addr × Obj) → Prop} {h' : Heap} {tk : Nat} {m' : Str → Option Value} {nl pre fr : List (Addr × Obj)} (F : Fr h₀ L h' m') (N : News h₀ L h' nl) (S : SplC [(I, it)] fr nl pre) (off : ∀ p ∈ pre ++ fr, p.1 ≠ I) (r : R m' (pre ++ fr)) : UnrPost h₀ L s₁ I it R Q .next { s₁ with heap := h', toks := tk } := ⟨h', tk, m', _, rfl, F, news_spl N S, off, r⟩
theorem unr_spl1 {L I : Addr} {it : Obj} {c : Addr × Obj} {s₁ : Shared} {R : (Str → Option Value) → List (Addr × Obj) → Prop} {h' : Heap} {tk : Nat} {m' : Str → Option Value} {nl pre fr : List (Addr × Obj)} (F : Fr h₀ L h' m') (N : News h₀ L h' nl) (S : SplC [(I, it), c] fr nl pre) (off : ∀ p ∈ c :: (pre ++ fr), p.1 ≠ I) (r : R m' (c :: (pre ++ fr))) : UnrPost h₀ L s₁ I it R Q .next { s₁ with heap := h', toks := tk } := ⟨h', tk, m', _, rfl, F, news_spl N S, off, r⟩
theorem unrEnd_intro {L I : Addr} {it : Obj} {s₁ : Shared} {R : (Str → Option Value) → List (Addr × Obj) → Prop} {h' : Heap} {tk : Nat} {m' : Str → Option Value} {all : List (Addr × Obj)} (F : Fr h₀ L h' m') (N : News h₀ L h' all) (news' : List (Addr × Obj))
    (sub : ∀ p ∈ (I, it) :: news', p ∈ all) (off : ∀ p ∈ news', p.1 ≠ I) (r : R m' news') : UnrEnd h₀ L s₁ I it R { s₁ with heap := h', toks := tk } := ⟨h', tk, m', news', rfl, F, fun p hp => N p (sub p hp), off, r⟩
end loops
theorem fetch_plain (w : World) {S : Addr} {v : Value} {d : PV} {n0 news : List (Addr × Obj)} (h : VIn w n0 v d) (hs : ∀ q ∈ n0, q ∈ news) (hr : isRef d = false) : CallC w 306 10 60 [.ref S, v] news (FetchPost w n0 d news) := by
  (k_with "GO" =>
  refine fetch_body w S v _ 9 57 news ?_
  intro dp un gd outer A₀ base g mean mg mb L s B F X N' T hd hu
  have hi : isPV 0 d = false := by cases d <;> first | rfl | exact nomatch hr
  have h' := h.mono hs
  dsimp only [F306]
  repeat' (k_extra "zS"; (fail_if_success (with_reducible show wpAny _ _ (pyIter (Value.ref _)) _ _ _)); first | k_extra "zP" | k_extra "zQ")
  rename (IsRange _ _ _ _ _ _ _ _) => hR
  refine iter_rangeUnr (n := 30) (by rfl) hR (by decide) (by decide) (by k_asm) (by k_asm) (fun I hI => RangeRest.succ fun t1 h1 tk1 F1 N1 => ?_)
  repeat' (k_extra "zS"; first | k_extra "zP" | ((with_reducible show wpAny _ _ (call (Value.builtin "isinstance") [_, _]) _ _ _); refine isi_ref (by k_asm) (by k_asm) (by k_asm) (by k_asm) (by k_asm) (h'.mono (by k_extra "zU")) ?_; intro tkI; rw [hi]) | k_extra "zQ")
  exact RetP.intro (by assumption) (by assumption) ⟨h, fun q hq => by k_mem⟩
  )
  k_extra "GG"
theorem fetch_ref (w : World) {S T TR : Addr} {oT : Obj} {kvs : List (Int × Value)} {tab : List (Int × Int × PV)} {v : Value} {x y : Int} {n0 news : List (Addr × Obj)} (h : VIn w n0 v (.ref x y)) (hs : ∀ q ∈ n0, q ∈ news) (hS : ShelfAt w news S T TR) (hTm : (T, oT) ∈ news) (lo : (T == sysModules) = false) (hT : oT.IsDictOf (PySem.intKind PG w) kvs) (htab : TabIn w n0 kvs tab) (hok : FetchOk tab (.ref x y)) : CallC w 306 10 60 [.ref S, v] news (FetchPost w n0 (fetchD tab (.ref x y)) news) := by
  (k_with "GO" =>
  refine fetch_body w S v _ 9 57 news ?_
  intro dp un gd outer A₀ base g mean mg mb L s B F X N' T' hd hu
  have hi : isPV 0 (.ref x y) = true := rfl
  have h' := h.mono hs
  have hvR := h'
  ((k_extra "V0"; obtain ⟨sd, tS, tS', nS, hS1, hS2⟩ := hS) <;> k_extra "V2")
  ((k_extra "V0"; obtain ⟨hy0, hnr⟩ := hok) <;> k_extra "V2")
  refine vE_ref hvR ?_
  intro a_ d_ t_ u_ t1_ u1_ c_ e_ h1 h2
  cases e_
  refine tab_el htab x (fun hva htb => ?_) (fun t gg u xv d n hva hm hvx htb => ?_)
  · have hres : fetchD tab (.ref x y) = .none := by simp only [fetchD, htb]
    rw [hres]
    dsimp only [F306]
    repeat' (k_extra "zS"; (fail_if_success (with_reducible show wpAny _ _ (pyIter (Value.ref _)) _ _ _)); first | k_extra "zP" | k_extra "zQ")
    rename (IsRange _ _ _ _ _ _ _ _) => hR
    refine iter_rangeUnr (n := 30) (by rfl) hR (by decide) (by decide) (by k_asm) (by k_asm) (fun I hI => RangeRest.succ fun t1 h1 tk1 F1 N1 => ?_)
    repeat' (k_extra "zS"; first | k_extra "zP" | ((with_reducible show wpAny _ _ (call (Value.builtin "isinstance") [_, _]) _ _ _); refine isi_ref (by k_asm) (by k_asm) (by k_asm) (by k_asm) (by k_asm) (h'.mono (by k_extra "zU")) ?_; intro tkI; rw [hi]) | ((with_reducible show wpAny _ _ (getMethod (Value.ref T) _ _) _ _ _); refine kdg_method (knd := PySem.intKind _ _) (by k_asm) (by k_mem) (by k_asm) ?_) | ((with_reducible show wpAny _ _ (call (Value.builtin "dict.get") _) _ _ _); refine kdg_get2 (knd := PySem.intKind _ _) (by k_asm) (by k_mem) (by k_asm) lo (intKind_is _ _ _ _) none hva ?_; dsimp only [Option.getD]) | k_extra "zQ")
    · exact RetP.intro (by assumption) (by assumption) ⟨.none, fun q hq => by k_mem⟩
    · exfalso; omega
  · have hnr2 := hnr _ _ htb
    have hi2 : isPV 0 d = false := by cases d <;> first | rfl | exact nomatch hnr2
    have hvx' := hvx.mono hs
    have hm' := hs _ hm
    dsimp only [F306]
    repeat' (k_extra "zS"; (fail_if_success (with_reducible show wpAny _ _ (pyIter (Value.ref _)) _ _ _)); first | k_extra "zP" | k_extra "zQ")
    rename (IsRange _ _ _ _ _ _ _ _) => hR
    refine iter_rangeUnr (n := 30) (by rfl) hR (by decide) (by decide) (by k_asm) (by k_asm) (fun I hI => RangeRest.succ fun t1 h1 tk1 F1 N1 => ?_)
    repeat' (k_extra "zS"; first | k_extra "zP" | ((with_reducible show wpAny _ _ (call (Value.builtin "isinstance") [_, _]) _ _ _); refine isi_ref (by k_asm) (by k_asm) (by k_asm) (by k_asm) (by k_asm) (h'.mono (by k_extra "zU")) ?_; intro tkI; rw [hi]) | ((with_reducible show wpAny _ _ (getMethod (Value.ref T) _ _) _ _ _); refine kdg_method (knd := PySem.intKind _ _) (by k_asm) (by k_mem) (by k_asm) ?_) | ((with_reducible show wpAny _ _ (call (Value.builtin "dict.get") _) _ _ _); refine kdg_get2 (knd := PySem.intKind _ _) (by k_asm) (by k_mem) (by k_asm) lo (intKind_is _ _ _ _) (some _) hva ?_; dsimp only [Option.getD]) | k_extra "zQ")
    · rename (gg ≠ y) => hne
      have hres : fetchD tab (.ref x y) = .none := by simp only [fetchD, htb]; exact if_neg hne
      exact RetP.intro (by assumption) (by assumption) ⟨by rw [hres]; exact .none, fun q hq => by k_mem⟩
    · rename (gg = y) => hne
      have hres : fetchD tab (.ref x y) = d := by simp only [fetchD, htb]; exact if_pos hne
      rename (News _ _ _ _) => N9
      refine unrEnd_intro (by assumption) N9 ((_, _) :: news) (by k_extra "zU") (by k_all) (RangeRest.succ fun t2 h2 tk2 F2 N2 => ?_)
      repeat' (k_extra "zS"; first | k_extra "zP" | ((with_reducible show wpAny _ _ (call (Value.builtin "isinstance") [_, _]) _ _ _); refine isi_ref (by k_asm) (by k_asm) (by k_asm) (by k_asm) (by k_asm) (hvx'.mono (by k_extra "zU")) ?_; intro tkI; rw [hi2]) | k_extra "zQ")
      exact RetP.intro (by assumption) (by assumption) ⟨by rw [hres]; exact hvx, fun q hq => by k_mem⟩
  )
  k_extra "GG"
theorem fetch_ok (w : World) {S T TR : Addr} {oT : Obj} {kvs : List (Int × Value)} {tab : List (Int × Int × PV)} {v : Value} {d : PV} {n0 news : List (Addr × Obj)} (h : VIn w n0 v d) (hs : ∀ q ∈ n0, q ∈ news) (hS : ShelfAt w news S T TR) (hTm : (T, oT) ∈ news) (lo : (T == sysModules) = false) (hT : oT.IsDictOf (PySem.intKind PG w) kvs) (htab : TabIn w n0 kvs tab) (hok : FetchOk tab d) : CallC w 306 10 60 [.ref S, v] news (FetchPost w n0 (fetchD tab d) news) := by
  cases d with
  | ref x y => exact fetch_ref w h hs hS hTm lo hT htab hok
  | _ => exact fetch_plain w h hs rfl
inductive Shelved (w : World) (n0 : List (Addr × Obj)) (S : Addr) (tab : List (Int × Int × PV)) (tr : List (Str × PV)) : Prop
  | mk : ∀ T TR oT kvs, ShelfAt w n0 S T TR → (T, oT) ∈ n0 → (T == sysModules) = false → oT.IsDictOf (PySem.intKind PG w) kvs → TabIn w n0 kvs tab → VIn w n0 (.ref TR) (.dict tr) → kvs.length ≤ 50 → Shelved w n0 S tab tr
theorem Shelved.mono {w : World} {n n' : List (Addr × Obj)} {S : Addr} {tab : List (Int × Int × PV)} {tr : List (Str × PV)} (h : Shelved w n S tab tr) (hs : ∀ q ∈ n, q ∈ n') : Shelved w n' S tab tr :=
  let ⟨T, TR, oT, kvs, ⟨sd, t, t', c, g1, g2⟩, h2, h3, h4, h5, h6, h7⟩ := h
  ⟨T, TR, oT, kvs, ⟨sd, t, t', c, hs _ g1, hs _ g2⟩, hs _ h2, h3, h4, h5.mono hs, h6.mono hs, h7⟩
def getD : List (Str × PV) → Str → PV
  | [], _ => .none
  | (k, d) :: r, x => if k = x then d else getD r x
theorem es_get {w : World} {n0 : List (Addr × Obj)} : ∀ {kvs : List (Str × Value)} {es : List (Str × PV)}, VEs w n0 kvs es → ∀ x, VIn w n0 ((valueAt kvs x).getD .none) (getD es x)
  | [], _, h, x => by cases h; exact .none
  | (k, v) :: kvs, _, h, x => by
    k_extra "V0"
    cases h with
    | cons a b =>
      k_extra "V2"
      by_cases e : k = x
      · subst e; simpa [valueAt, getD] using a
      · have e1 : valueAt ((k, v) :: kvs) x = valueAt kvs x := by simp [valueAt, e]
        rw [e1, getD, if_neg e]
        exact es_get b x
theorem shelfAt_mono {w : World} {n n' : List (Addr × Obj)} {S T TR : Addr} (h : ShelfAt w n S T TR) (hs : ∀ q ∈ n, q ∈ n') : ShelfAt w n' S T TR := let ⟨sd, t, t', c, h1, h2⟩ := h; ⟨sd, t, t', c, hs _ h1, hs _ h2⟩
section use
variable {w : World} {dp un : Nat} {gd : Option (List Code)} {cn : Str} {cs : Scope} {a : Addr} {ccd : Value} {cl : List (Str × Addr)} {outer : List Env} {A₀ : Around} {base h₀ : Heap} {mean : ExcName → Option Value} {mg mb : Str → Option Value} {L : Addr} {m : Str → Option Value} {s : Shared} {Q E : Value → Shared → Prop} {news n0 : List (Addr × Obj)}
theorem fetch_use {S : Addr} {tab : List (Int × Int × PV)} {tr : List (Str × PV)} {v : Value} {d : PV}
    (B : Below A₀ base outer h₀) (F : Fr h₀ L s.heap m) (X : (K w.params).In h₀) (N : News h₀ L s.heap news) (T' : TopV mean mg mb h₀) (hk : cs.kind = .function) (hd : dp + 10 < recursionLimit) (hu : un + 60 < cLine) (hS : Shelved w n0 S tab tr) (h : VIn w n0 v d) (hs : ∀ q ∈ n0, q ∈ news) (hok : FetchOk tab d)
    (ret : ∀ r h' tk', VIn w n0 r (fetchD tab d) → Fr h₀ L h' m → News h₀ L h' news → Q r { s with heap := h', toks := tk' }) :
    wpAny (model PG w) (ktrTop dp un gd cn cs L a ccd cl outer) (call (.ref 306) [.ref S, v]) Q E s := by
  ((k_extra "V1"; obtain ⟨T, TR, oT, kvs, h1, h2, h3, h4, h5, h6, h7⟩ := hS) <;> k_extra "V2")
  refine (fetch_ok w h hs (shelfAt_mono h1 hs) (hs _ h2) h3 h4 h5 hok).use B F X N T' (fun p hp => hp) hk (by omega) (by omega) ?_
  intro r news' h' tk' F2 N2 z6_
  ((k_extra "V1"; obtain ⟨g1, g2⟩ := z6_) <;> k_extra "V2")
  exact ret r h' tk' g1 F2 (fun q hq => N2 q (g2 q hq))
end use
theorem get_ok (w : World) {S H : Addr} {tab : List (Int × Int × PV)} {tr es : List (Str × PV)} {k : Str} {tk : Tok} {n0 news : List (Addr × Obj)} (hS : Shelved w n0 S tab tr) (h : VIn w n0 (.ref H) (.dict es)) (hs : ∀ q ∈ n0, q ∈ news) (hok : FetchOk tab (getD es k)) : CallC w 313 20 120 [.ref S, .ref H, .str k tk] news (FetchPost w n0 (fetchD tab (getD es k)) news) := by
  (k_with "GO" =>
  refine enterC (dc := 19) (uc := 117) (binds := [("self", .ref S), ("head", .ref H), ("key", .str k tk)]) (look_313 _) (code_313 _) (fun s _ => BindsTo.of_eq rfl) (locs rfl) rfl rfl rfl (by decide) ?_
  intro dp un gd outer A₀ base g mean mg mb L s B F X N' T' hd hu
  have hS0 := hS
  ((k_extra "V1"; obtain ⟨T, TR, oT, kvT, ⟨sd, tS, tS', nS, hS1, hS2⟩, h2, h3, h4, h5, h6, h7⟩ := hS) <;> k_extra "V2")
  refine vE_dict h ?_
  intro a_ o kvs e_ hm hd0 hlo hes
  cases e_
  have hv := es_get hes k
  have hm' := hs _ hm
  have hS1' := hs _ hS1
  have hS2' := hs _ hS2
  dsimp only [F313]
  repeat' (k_extra "zS"; first | k_extra "zP" | ((with_reducible show wpAny _ _ (getMethod (Value.ref H) _ _) _ _ _); refine kdg_method (knd := PySem.strKind _ _) (by k_asm) (by k_mem) hd0 ?_) | ((with_reducible show wpAny _ _ (call (Value.builtin "dict.get") _) _ _ _); refine kdg_get1 (knd := PySem.strKind _ _) (by k_asm) (by k_mem) hd0 hlo (strKind_is _ _ _ _) (valueAt kvs k) rfl ?_) | ((with_reducible show wpAny _ _ (call (Value.ref 306) _) _ _ _); (show wpAny _ _ (call (Value.ref 306) [_, _]) _ _ _); refine fetch_use (by k_asm) (by k_asm) (by k_asm) (by k_asm) (by k_asm) rfl (by k_extra "ROOM") (by k_extra "UNITS") hS0 hv hs hok ?_; intro rG hG tkG hvG FG NG; (try k_sweep)) | k_extra "zQ")
  exact RetP.intro (by assumption) (by assumption) ⟨by assumption, fun q hq => hq⟩
  )
  k_extra "GG"
section use2
variable {w : World} {dp un : Nat} {gd : Option (List Code)} {cn : Str} {cs : Scope} {a : Addr} {ccd : Value} {cl : List (Str × Addr)} {outer : List Env} {A₀ : Around} {base h₀ : Heap} {mean : ExcName → Option Value} {mg mb : Str → Option Value} {L : Addr} {m : Str → Option Value} {s : Shared} {Q E : Value → Shared → Prop} {news n0 : List (Addr × Obj)}
theorem get_use {S H : Addr} {tab : List (Int × Int × PV)} {tr es : List (Str × PV)} {k : Str} {tk : Tok}
    (B : Below A₀ base outer h₀) (F : Fr h₀ L s.heap m) (X : (K w.params).In h₀) (N : News h₀ L s.heap news) (T' : TopV mean mg mb h₀) (hk : cs.kind = .function) (hd : dp + 20 < recursionLimit) (hu : un + 120 < cLine) (hS : Shelved w n0 S tab tr) (h : VIn w n0 (.ref H) (.dict es)) (hs : ∀ q ∈ n0, q ∈ news) (hok : FetchOk tab (getD es k))
    (ret : ∀ r h' tk', VIn w n0 r (fetchD tab (getD es k)) → Fr h₀ L h' m → News h₀ L h' news → Q r { s with heap := h', toks := tk' }) :
    wpAny (model PG w) (ktrTop dp un gd cn cs L a ccd cl outer) (call (.ref 313) [.ref S, .ref H, .str k tk]) Q E s := by
  refine (get_ok w hS h hs hok).use B F X N T' (fun p hp => hp) hk (by omega) (by omega) ?_
  intro r news' h' tk' F2 N2 z6_
  ((k_extra "V1"; obtain ⟨g1, g2⟩ := z6_) <;> k_extra "V2")
  exact ret r h' tk' g1 F2 (fun q hq => N2 q (g2 q hq))
end use2
def nameD : PV → Str
  | .name s => s
  | _ => ""
theorem name_body (w : World) (v : Value) (P : Value → List (Addr × Obj) → Prop) (dc uc : Nat) (news : List (Addr × Obj)) (h : BodyC w 415 "name_of" F415.1.2.2 F415.1.2.1 (.ref 414) dc uc [("value", v)] news P) : CallC w 415 (dc + 1) (uc + 3) [v] news P :=
  enterC (binds := [("value", v)]) (look_415 _) (code_415 _) (fun s _ => BindsTo.of_eq rfl) (locs rfl) rfl rfl rfl (by decide) h
theorem name_ok (w : World) {v : Value} {d : PV} {news : List (Addr × Obj)} (h : VIn w news v d) : CallC w 415 10 60 [v] news (fun r news' => (∃ t, r = .str (nameD d) t) ∧ ∀ q ∈ news, q ∈ news') := by
  (k_with "GO" =>
  refine name_body w v _ 9 57 news ?_
  intro dp un gd outer A₀ base g mean mg mb L s B F X N' T' hd hu
  by_cases hn : ∃ s, d = .name s
  · ((k_extra "V1"; obtain ⟨x, rfl⟩ := hn) <;> k_extra "V2")
    have hv := h
    refine vE_name h ?_
    intro a_ d_ t_ u_ c_ e_ h1 h2
    cases e_
    dsimp only [F415]
    repeat' (k_extra "zS"; first | k_extra "zP" | k_extra "KINDR" | k_extra "zQ")
    exact RetP.intro (by assumption) (by assumption) ⟨⟨_, rfl⟩, fun q hq => hq⟩
  · have hv := h
    have k1 : ¬ ((kindD d == Str.ofString "name") = true) := by cases d <;> first | exact absurd ⟨_, rfl⟩ hn | (simp only [kindD]; decide +kernel)
    have e : nameD d = "" := by cases d <;> first | exact absurd ⟨_, rfl⟩ hn | rfl
    rw [e]
    dsimp only [F415]
    repeat' (k_extra "zS"; first | k_extra "zP" | k_extra "KINDR0" | ((with_reducible show ite _ _ _); rw [if_neg k1]) | k_extra "zQ")
    exact RetP.intro (by assumption) (by assumption) ⟨⟨_, rfl⟩, fun q hq => hq⟩
  )
  k_extra "GG"
def thereD (tab : List (Int × Int × PV)) (q : Int × Int) : Bool := match tabAt tab q.1 with
  | some (g, _) => decide (g = q.2)
  | none => false
theorem there_ok (w : World) {S P : Addr} {tab : List (Int × Int × PV)} {tr : List (Str × PV)} {x y : Int} {u u' : Tok} {n : Nat} {n0 news : List (Addr × Obj)} (hS : Shelved w n0 S tab tr) (hs : ∀ q ∈ n0, q ∈ news) (hP : (P, ({ cls := .type "tuple", data := .seq #[.int x u, .int y u'] n } : Obj)) ∈ news) : CallC w 28 10 60 [.ref S, .ref P] news (fun r news' => r = .bool (thereD tab (x, y)) ∧ ∀ q ∈ news, q ∈ news') := by
  (k_with "GO" =>
  refine enterC (dc := 9) (uc := 57) (binds := [("shelf", .ref S), ("pair", .ref P)]) (look_28 _) (code_28 _) (fun s _ => BindsTo.of_eq rfl) (locs rfl) rfl rfl rfl (by decide) ?_
  intro dp un gd outer A₀ base g mean mg mb L s B F X N' T' hd hu
  ((k_extra "V0"; obtain ⟨T, TR, oT, kvs, ⟨sd, tS, tS', nS, hS1, hS2⟩, h2, lo, hT, htab, h6, h7⟩ := hS) <;> k_extra "V2")
  have hS1' := hs _ hS1
  have hS2' := hs _ hS2
  have hT' := hs _ h2
  refine tab_el htab x (fun hva htb => ?_) (fun t gg uu xv d n hva hm hvx htb => ?_)
  · have hres : thereD tab (x, y) = false := by simp only [thereD, htb]
    rw [hres]
    dsimp only [F28]
    repeat' (k_extra "zS"; first | k_extra "zP" | ((with_reducible show wpAny _ _ (compareOp CmpOp.In (Value.int _ _) (Value.ref T)) _ _ _); refine kda_in (knd := PySem.intKind _ _) (by k_asm) (by k_mem) hT lo (intKind_is _ _ _ _) false (by rw [hva]; rfl) ?_) | k_extra "zQ")
    exact RetP.intro (by assumption) (by assumption) ⟨rfl, fun q hq => hq⟩
  · have hres : thereD tab (x, y) = decide (gg = y) := by simp only [thereD, htb]
    rw [hres]
    have hm' := hs _ hm
    dsimp only [F28]
    repeat' (k_extra "zS"; first | k_extra "zP" | ((with_reducible show wpAny _ _ (compareOp CmpOp.In (Value.int _ _) (Value.ref T)) _ _ _); refine kda_in (knd := PySem.intKind _ _) (by k_asm) (by k_mem) hT lo (intKind_is _ _ _ _) true (by rw [hva]; rfl) ?_) | ((with_reducible show wpAny _ _ (subscriptTail _ _ (Value.ref T) (Value.int _ _)) _ _ _); refine kda_item (knd := PySem.intKind _ _) (by k_asm) (by k_mem) hT (intKind_is _ _ _ _) hva ?_) | k_extra "zQ")
    all_goals trace_state
    exact RetP.intro (by assumption) (by assumption) ⟨rfl, fun q hq => hq⟩
  )
  k_extra "GG"
theorem tab_keys {w : World} {n0 : List (Addr × Obj)} {kvs : List (Int × Value)} {tab : List (Int × Int × PV)} (h : TabIn w n0 kvs tab) : kvs.map (·.1) = tab.map (·.1) := by
  induction h with
  | nil => rfl
  | cons _ _ _ ih => simp only [List.map_cons, ih]
theorem numbers_ok (w : World) {S : Addr} {tab : List (Int × Int × PV)} {tr : List (Str × PV)} {n0 news : List (Addr × Obj)} (hS : Shelved w n0 S tab tr) (hs : ∀ q ∈ n0, q ∈ news) : CallC w 355 10 60 [.ref S] news (fun r news' => ∃ D vs ns n, r = .ref D ∧ (∀ q ∈ (D, listOf (List.toArray vs) n) :: news, q ∈ news') ∧ AllLt D news ∧ IntsAre vs ns ∧ ns.Perm (tab.map (·.1)) ∧ ns.Pairwise (· ≤ ·)) := by
  (k_with "GO" =>
  refine enterC (dc := 9) (uc := 57) (binds := [("self", .ref S)]) (look_355 _) (code_355 _) (fun s _ => BindsTo.of_eq rfl) (locs rfl) rfl rfl rfl (by decide) ?_
  intro dp un gd outer A₀ base g mean mg mb L s B F X N' T' hd hu
  ((k_extra "V1"; obtain ⟨T, TR, oT, kvs, ⟨sd, tS, tS', nS, hS1, hS2⟩, h2, lo, hT, htab, h6, h7⟩ := hS) <;> k_extra "V2")
  have hS1' := hs _ hS1
  have hS2' := hs _ hS2
  have hT' := hs _ h2
  dsimp only [F355]
  repeat' (k_extra "zS"; first | k_extra "zP" | ((with_reducible show wpAny _ _ (call (Value.builtin "sorted") [Value.ref _]) _ _ _); refine sorted_intD (by rfl) (by k_asm) (by k_asm) (by k_mem) hT lo h7 ?_; intro DS cS hS tkS vsS nsS FS NS lS hv1 hv2 hv3) | k_extra "zQ")
  exact RetP.intro (by assumption) (by assumption) ⟨DS, vsS, nsS, _, rfl, fun q hq => hq, lS, hv1, tab_keys htab ▸ hv2, hv3⟩
  )
  k_extra "GG"
inductive FIn (w : World) (news : List (Addr × Obj)) (v : Value) (f : Str × Int × Str) : Prop
  | mk : ∀ a d t u t' u' t'' u'' n, v = .ref a → (a, instObj 397 d) ∈ news → (d, dictOf [ent w "word" t (.str f.1 u), ent w "place" t' (.int f.2.1 u'), ent w "text" t'' (.str f.2.2 u'')] n) ∈ news → FIn w news v f
theorem FIn.mono {w : World} {n n' : List (Addr × Obj)} {v : Value} {f : Str × Int × Str} (h : FIn w n v f) (hs : ∀ q ∈ n, q ∈ n') : FIn w n' v f := let ⟨a, d, t, u, t', u', t'', u'', c, e, h1, h2⟩ := h; ⟨a, d, t, u, t', u', t'', u'', c, e, hs _ h1, hs _ h2⟩
def rowD (f : Str × Int × Str) : Dat := .tuple [.str f.1, .int f.2.1, .str f.2.2]
theorem ftold_ok (w : World) {v : Value} {f : Str × Int × Str} {news : List (Addr × Obj)} (h : FIn w news v f) : CallC w 394 10 60 [v] news (PlainPost (rowD f) news) := by
  (k_with "GO" =>
  ((k_extra "V1"; obtain ⟨a, d, t, u, t', u', t'', u'', c, rfl, h1, h2⟩ := h) <;> k_extra "V2")
  refine enterC (dc := 9) (uc := 57) (binds := [("self", .ref a)]) (look_394 _) (code_394 _) (fun s _ => BindsTo.of_eq rfl) (locs rfl) rfl rfl rfl (by decide) ?_
  intro dp un gd outer A₀ base g mean mg mb L s B F X N' T' hd hu
  dsimp only [F394]
  repeat' (k_extra "zS"; first | k_extra "zP" | k_extra "zQ")
  refine RetP.intro (by assumption) (by assumption) ⟨[(_, _)], fun q hq => hq, ?d, ?a⟩
  case d => exact DatIn.tuple (by k_mem) (.cons (.str _ _) (.cons (.int _ _) (.cons (.str _ _) .nil)))
  case a => k_extra "zA"
  )
  k_extra "GG"
def keysD (tab : List (Int × Int × PV)) : List Int := (tab.map (·.1)).mergeSort (fun a b => decide (a ≤ b))
theorem keysD_uniq {tab : List (Int × Int × PV)} {ns : List Int} (h1 : ns.Perm (tab.map (·.1))) (h2 : ns.Pairwise (· ≤ ·)) : ns = keysD tab := by
  refine lks_uniq (h1.trans (List.mergeSort_perm _ _).symm) h2 ?_
  have := List.pairwise_mergeSort (le := fun a b : Int => decide (a ≤ b)) (fun a b c h1 h2 => by simp only [decide_eq_true_eq] at *; omega) (fun a b => by simp only [Bool.or_eq_true, decide_eq_true_eq]; omega) (tab.map (·.1))
  exact this.imp fun h => of_decide_eq_true h
theorem keysD_mem {tab : List (Int × Int × PV)} {k : Int} (h : k ∈ keysD tab) : ∃ g d, tabAt tab k = some (g, d) := by
  have h1 : k ∈ tab.map (·.1) := (List.mergeSort_perm _ _).mem_iff.mp h
  clear h
  induction tab with
  | nil => cases h1
  | cons q tab ih =>
    ((k_extra "V1"; obtain ⟨k', g, d⟩ := q) <;> k_extra "V2")
    by_cases e : k' = k
    · exact ⟨g, d, by rw [tabAt, if_pos e]⟩
    · rw [tabAt, if_neg e]
      exact ih ((List.mem_cons.mp h1).resolve_left (Ne.symm e))
theorem keysD_length (tab : List (Int × Int × PV)) : (keysD tab).length = tab.length := by
  unfold keysD; rw [(List.mergeSort_perm _ _).length_eq, List.length_map]
theorem tab_length {w : World} {n0 : List (Addr × Obj)} {kvs : List (Int × Value)} {tab : List (Int × Int × PV)} (h : TabIn w n0 kvs tab) : kvs.length = tab.length := by
  induction h with
  | nil => rfl
  | cons _ _ _ ih => simp [ih]
theorem ints_at {vs : List Value} {ns : List Int} (h : IntsAre vs ns) : ∀ {i : Nat} {v : Value}, vs[i]? = some v → ∃ k t, ns[i]? = some k ∧ v = .int k t := by
  induction h with
  | nil => intro i v e; simp at e
  | cons x t r ih =>
    intro i v e
    ((k_extra "V1"; rcases i with _ | i) <;> k_extra "V2")
    · simp only [List.getElem?_cons_zero, Option.some.injEq] at e; exact ⟨x, t, rfl, e.symm⟩
    · simp only [List.getElem?_cons_succ] at e ⊢; exact ih e
section use
variable {w : World} {dp un : Nat} {gd : Option (List Code)} {cn : Str} {cs : Scope} {a : Addr} {ccd : Value} {cl : List (Str × Addr)} {outer : List Env} {A₀ : Around} {base h₀ : Heap} {mean : ExcName → Option Value} {mg mb : Str → Option Value} {L : Addr} {m : Str → Option Value} {s : Shared} {Q E : Value → Shared → Prop} {news n0 : List (Addr × Obj)}
theorem numbers_use {S : Addr} {tab : List (Int × Int × PV)} {tr : List (Str × PV)}
    (B : Below A₀ base outer h₀) (F : Fr h₀ L s.heap m) (X : (K w.params).In h₀) (N : News h₀ L s.heap news) (T' : TopV mean mg mb h₀) (hk : cs.kind = .function) (hd : dp + 10 < recursionLimit) (hu : un + 60 < cLine) (hS : Shelved w n0 S tab tr) (hs : ∀ q ∈ n0, q ∈ news)
    (ret : ∀ D vs c h' tk', Fr h₀ L h' m → News h₀ L h' ((D, listOf (List.toArray vs) c) :: news) → AllLt D news → IntsAre vs (keysD tab) → Q (.ref D) { s with heap := h', toks := tk' }) :
    wpAny (model PG w) (ktrTop dp un gd cn cs L a ccd cl outer) (call (.ref 355) [.ref S]) Q E s := by
  refine (numbers_ok w hS hs).use B F X N T' (fun p hp => hp) hk (by omega) (by omega) ?_
  intro r news' h' tk' F2 N2 z6_
  ((k_extra "V1"; obtain ⟨D, vs, ns, c, rfl, g1, g2, g3, g4, g5⟩ := z6_) <;> k_extra "V2")
  exact ret D vs c h' tk' F2 (fun q hq => N2 q (g1 q hq)) g2 (keysD_uniq g4 g5 ▸ g3)
theorem told_use {v : Value} {d : PV} {n : Nat}
    (B : Below A₀ base outer h₀) (F : Fr h₀ L s.heap m) (X : (K w.params).In h₀) (N : News h₀ L s.heap news) (T' : TopV mean mg mb h₀) (hk : cs.kind = .function) (hd : dp + 20 * n < recursionLimit) (hu : un + 120 * n < cLine) (h : VIn w n0 v d) (hs : ∀ q ∈ n0, q ∈ news) (hok : ToldOk n d)
    (ret : ∀ r tl h' tk', Fr h₀ L h' m → News h₀ L h' (tl ++ news) → DatIn tl r (toldF n d) → Apart news tl → Q r { s with heap := h', toks := tk' }) :
    wpAny (model PG w) (ktrTop dp un gd cn cs L a ccd cl outer) (call (.ref 272) [v]) Q E s := by
  refine (told_ok w n hok (h.mono hs)).use B F X N T' (fun p hp => hp) hk (by omega) (by omega) ?_
  intro r news' h' tk' F2 N2 z6_
  ((k_extra "V1"; obtain ⟨tl, g1, g2, g3⟩ := z6_) <;> k_extra "V2")
  exact ret r tl h' tk' F2 (fun q hq => N2 q (g1 q hq)) g2 g3
end use
def rowOf (tab : List (Int × Int × PV)) (k : Int) : Dat := match tabAt tab k with
  | some (g, d) => .tuple [.int k, .int g, toldF 6 d]
  | none => .none
def shelfD (tab : List (Int × Int × PV)) (tr : List (Str × PV)) : Dat := .tuple [.tuple ((keysD tab).map (rowOf tab)), toldF 6 (.dict tr)]
def TabOk (tab : List (Int × Int × PV)) : Prop := ∀ k g d, tabAt tab k = some (g, d) → ToldOk 6 d
theorem stold_ok (w : World) {S : Addr} {tab : List (Int × Int × PV)} {tr : List (Str × PV)} {n0 news : List (Addr × Obj)} (hS : Shelved w n0 S tab tr) (hs : ∀ q ∈ n0, q ∈ news) (hok : TabOk tab) (hok2 : ToldOk 6 (.dict tr)) : CallC w 367 160 960 [.ref S] news (PlainPost (shelfD tab tr) news) := by
  (k_with "GO" =>
  refine enterCC (dc := 159) (uc := 957) (binds := [("self", .ref S)]) (look_367 _) (code_367 _) (fun s _ => BindsTo.of_eq rfl) rfl (by decide +kernel) rfl rfl rfl ?_
  intro dp un gd outer A₀ base g mean mg mb L s cells B F X N' Y l1 T' hd hu
  replace l1 := allLt_of l1
  k_cells Y
  simp only [List.cons_append, List.nil_append] at N'
  rename (_ = Data.cell _) => hcell
  rename_i oce
  change Fr g L s.heap (fun _ => none) at F
  change _ = Data.cell (some (.ref S)) at hcell
  have hSn := hS.mono hs
  ((k_extra "V1"; obtain ⟨T, TR, oT, kvs, ⟨sd, tS, tS', nS, hS1, hS2⟩, h2, lo, hT, htab, h6, h7⟩ := hS) <;> k_extra "V2")
  have hS1' := hs _ hS1
  have hS2' := hs _ hS2
  have hT' := hs _ h2
  have hkl := keysD_length tab
  have htl := tab_length htab
  dsimp only [F367]
  repeat' (k_extra "zS"; (fail_if_success (with_reducible show LCg.CompSrc _ _ _ _ _ _ _ _ _ _ _ _ _ _)); first | k_extra "zP" | k_extra "NUMS" | k_extra "zQ")
  have hvl := hvS.length
  refine LCg.CompSrc.ledger (by rfl) (by k_asm) (by k_asm) (by k_mem) (by rw [sizeLine_eq, List.size_toArray]; omega) ?_
  intro g1
  refine comp_pure (fun i tl ys => DatAll tl ys (((keysD tab).take i).map (rowOf tab))) .nil ?_ ?_
  · intro i x ys tl hi hx hy hta hJ I oI C oC D m2 h1 tk1 E' hNs hx2 F1 N1 o1 o2 ne
    ((k_extra "V1"; obtain ⟨k, tk, hk, rfl⟩ := ints_at hvS (by simpa using hx)) <;> k_extra "V2")
    ((k_extra "V1"; obtain ⟨gg, d, htb⟩ := keysD_mem (List.mem_of_getElem? hk)) <;> k_extra "V2")
    have hokd := hok _ _ _ htb
    refine tab_some htab htb ?_
    intro t u xv n hva hm hvx
    have hm' := hs _ hm
    have hvx' := hvx.mono hs
    ((k_extra "V1"; obtain ⟨ne1, ne2, ne3⟩ := ne) <;> k_extra "V2")
    repeat' (k_extra "zS"; first | k_extra "zP" | k_extra "TOLDU" | ((with_reducible show wpAny _ _ (subscriptTail _ _ (Value.ref T) (Value.int _ _)) _ _ _); refine kda_item (knd := PySem.intKind _ _) (by k_asm) (by k_mem) hT (intKind_is _ _ _ _) hva ?_) | k_extra "zQ")
    refine' cpost_pure ((_, _) :: tlT) (by assumption) (by assumption) ?e1 o1 o2 ?e5 hta ?e6 ?e7
    case e1 => exact off3_cons (by k_ne) (by k_ne) (by k_ne) (LCg.Off3.of fun q hq => ⟨hT3.ne (d := I) (by k_mem) q hq, hT3.ne (d := C) (by k_mem) q hq, hT3.ne (d := D) (by k_mem) q hq⟩)
    case e5 => exact Apart.cons (by k_all) (fun q hq => hT3 q (by k_mem))
    case e6 => lcg_src
    case e7 =>
      show DatAll _ _ _
      rw [List.take_add_one, hk, Option.toList_some, List.map_append]
      refine datAll_snoc hJ ?_
      rw [show rowOf tab k = .tuple [.int k, .int gg, toldF 6 d] by simp only [rowOf, htb]]
      exact DatIn.tuple (by k_mem) (.cons (.int _ _) (.cons (.int _ _) (.cons (hT2.mono fun _ hq => by k_mem) .nil)))
  · intro tl ys hy hta hJ
    rw [List.size_toArray, hvl, List.take_length] at hJ
    have hyl : ys.length ≤ 1000 := by have := datAll_length hJ; simp at this; omega
    have hta' : Apart news tl := fun q hq => hta q (by k_mem)
    have h6' := h6.mono hs
    repeat' (k_extra "zS"; first | k_extra "zP" | k_extra "TOLDU" | ((with_reducible show wpAny _ _ (call (Value.type "tuple") [Value.ref _]) _ _ _); refine tup_list (by k_asm) (by k_asm) (by k_mem) (by omega) ?_; intro DT hT1 FT NT lT; (try simp only [AllLt, allLt_append, and_true, and_assoc] at lT); (repeat (have k_l := And.left lT; replace lT := And.right lT)); (try k_sweep)) | k_extra "zQ")
    have hT4 : Apart news tlT := fun q hq => hT3 q (by k_mem)
    have N8 := news_spl0 (fr := news) (by assumption) (by repeat (first | exact splC0 | apply SplC.cons | apply SplC.app))
    refine RetP.intro (by assumption) N8 ⟨_, fun q hq => hq, ?d, ?a⟩
    case d => exact DatIn.tuple (by k_mem) (.cons (.tuple (by k_mem) (hJ.mono fun q hq => by k_mem)) (.cons (hT2.mono fun q hq => by k_mem) .nil))
    case a => k_extra "zA"
  )
  k_extra "GG"
inductive FAll (w : World) (news : List (Addr × Obj)) : List Value → List (Str × Int × Str) → Prop
  | nil : FAll w news [] []
  | cons {v : Value} {vs : List Value} {f : Str × Int × Str} {fs : List (Str × Int × Str)} : FIn w news v f → FAll w news vs fs → FAll w news (v :: vs) (f :: fs)
theorem FAll.mono {w : World} {n n' : List (Addr × Obj)} {vs : List Value} {fs : List (Str × Int × Str)} (h : FAll w n vs fs) (hs : ∀ q ∈ n, q ∈ n') : FAll w n' vs fs := by
  induction h with
  | nil => exact .nil
  | cons a _ ih => exact .cons (a.mono hs) ih
theorem FAll.append {w : World} {n : List (Addr × Obj)} {vs vs' : List Value} {fs fs' : List (Str × Int × Str)} (h : FAll w n vs fs) (h' : FAll w n vs' fs') : FAll w n (vs ++ vs') (fs ++ fs') := by
  induction h with
  | nil => exact h'
  | cons a _ ih => exact .cons a ih
theorem FAll.length {w : World} {n : List (Addr × Obj)} {vs : List Value} {fs : List (Str × Int × Str)} (h : FAll w n vs fs) : vs.length = fs.length := by
  induction h with
  | nil => rfl
  | cons _ _ ih => simp [ih]
abbrev fnd (a : Str) (p : Int) (b : Str) : Str × Int × Str := (a, p, b)
theorem fin_intro {w : World} {n : List (Addr × Obj)} {a d : Addr} {x y : Str} {i : Int} {t u t' u' t'' u'' : Tok} {c : Nat} (h1 : (a, instObj 397 d) ∈ n) (h2 : (d, dictOf [ent w "word" t (.str x u), ent w "place" t' (.int i u'), ent w "text" t'' (.str y u'')] c) ∈ n) : FIn w n (.ref a) (fnd x i y) := ⟨a, d, t, u, t', u', t'', u'', c, rfl, h1, h2⟩
inductive FindPost (w : World) (fs : List (Str × Int × Str)) (news : List (Addr × Obj)) (r : Value) (news' : List (Addr × Obj)) : Prop
  | mk : ∀ D vs n tl, r = .ref D → (∀ q ∈ tl ++ news, q ∈ news') → (D, listOf (List.toArray vs) n) ∈ tl → FAll w tl vs fs → Apart news tl → FindPost w fs news r news'
section use
variable {w : World} {dp un : Nat} {gd : Option (List Code)} {cn : Str} {cs : Scope} {a : Addr} {ccd : Value} {cl : List (Str × Addr)} {outer : List Env} {A₀ : Around} {base h₀ : Heap} {mean : ExcName → Option Value} {mg mb : Str → Option Value} {L : Addr} {m : Str → Option Value} {s : Shared} {Q E : Value → Shared → Prop} {news n0 : List (Addr × Obj)}
theorem name_use {v : Value} {d : PV}
    (B : Below A₀ base outer h₀) (F : Fr h₀ L s.heap m) (X : (K w.params).In h₀) (N : News h₀ L s.heap news) (T' : TopV mean mg mb h₀) (hk : cs.kind = .function) (hd : dp + 10 < recursionLimit) (hu : un + 60 < cLine) (h : VIn w n0 v d) (hs : ∀ q ∈ n0, q ∈ news)
    (ret : ∀ t h' tk', Fr h₀ L h' m → News h₀ L h' news → Q (.str (nameD d) t) { s with heap := h', toks := tk' }) :
    wpAny (model PG w) (ktrTop dp un gd cn cs L a ccd cl outer) (call (.ref 415) [v]) Q E s := by
  refine (name_ok w (h.mono hs)).use B F X N T' (fun p hp => hp) hk (by omega) (by omega) ?_
  intro r news' h' tk' F2 N2 z6_
  ((k_extra "V1"; obtain ⟨⟨t, rfl⟩, g1⟩ := z6_) <;> k_extra "V2")
  exact ret t h' tk' F2 (fun q hq => N2 q (g1 q hq))
end use
theorem vin_dict_ref {w : World} {n : List (Addr × Obj)} {v : Value} {es : List (Str × PV)} (h : VIn w n v (.dict es)) : ∃ a, v = .ref a := by cases h; exact ⟨_, rfl⟩
def rootD (tab : List (Int × Int × PV)) (tr : List (Str × PV)) : List (Str × Int × Str) := match fetchD tab (getD tr "Root") with
  | .dict es => if nameD (fetchD tab (getD es "Type")) = Str.ofString "Catalog" then [] else [fnd "root" (-1) "its Type is not Catalog"]
  | _ => [fnd "root" (-1) "no dict of the document"]
theorem chkroot_ok (w : World) {S : Addr} {tab : List (Int × Int × PV)} {tr : List (Str × PV)} {n0 news : List (Addr × Obj)} (hS : Shelved w n0 S tab tr) (hs : ∀ q ∈ n0, q ∈ news) (hok : FetchOk tab (getD tr "Root")) (hok2 : ∀ es, fetchD tab (getD tr "Root") = .dict es → FetchOk tab (getD es "Type")) : CallC w 408 40 240 [.ref S] news (FindPost w (rootD tab tr) news) := by
  (k_with "GO" =>
  refine enterC (dc := 39) (uc := 237) (binds := [("shelf", .ref S)]) (look_408 _) (code_408 _) (fun s _ => BindsTo.of_eq rfl) (locs rfl) rfl rfl rfl (by decide) ?_
  intro dp un gd outer A₀ base g mean mg mb L s B F X N' T' hd hu
  have hSn := hS.mono hs
  clear hS hs
  have hS := hSn
  ((k_extra "V0"; obtain ⟨T, TR, oT, kvs, ⟨sd, tS, tS', nS, hS1, hS2⟩, h2, lo, hT, htab, h6, h7⟩ := hS) <;> k_extra "V2")
  by_cases hD : ∃ es, fetchD tab (getD tr "Root") = .dict es
  · ((k_extra "V0"; obtain ⟨es, hD⟩ := hD) <;> k_extra "V2")
    have hok3 := hok2 es hD
    have hres : rootD tab tr = if nameD (fetchD tab (getD es "Type")) = Str.ofString "Catalog" then [] else [fnd "root" (-1) "its Type is not Catalog"] := by simp only [rootD, hD]
    rw [hres]
    dsimp only [F408]
    repeat' (k_extra "zS"; first | k_extra "zP" | ((with_reducible show wpAny _ _ (call (Value.ref 313) _) _ _ _); (show wpAny _ _ (call (Value.ref 313) [_, _, _]) _ _ _); first | (refine get_use (k := Str.ofString "Root") (by k_asm) (by k_asm) (by k_asm) (by k_asm) (by k_asm) rfl (by k_extra "ROOM") (by k_extra "UNITS") hSn h6 (by k_extra "zU") hok ?_; intro rG hG tkG hvG FG NG; rw [hD] at hvG; obtain ⟨aG, rfl⟩ := vin_dict_ref hvG; (try k_sweep)) | (refine get_use (k := Str.ofString "Type") (by k_asm) (by k_asm) (by k_asm) (by k_asm) (by k_asm) rfl (by k_extra "ROOM") (by k_extra "UNITS") hSn hvG (by k_extra "zU") hok3 ?_; intro rG2 hG2 tkG2 hvG2 FG2 NG2; (try k_sweep))) | k_extra "NAMEU" | ((with_reducible show wpAny _ _ (call (Value.builtin "isinstance") [_, _]) _ _ _); refine isi_dict (by k_asm) (by k_asm) (by k_asm) (by k_asm) (by k_asm) (VIn.mono (by k_extra "zU") hvG) ?_; intro tkI; rw [show isPV 2 (.dict es) = true from rfl]) | k_extra "zQ")
    · rename ((_ != _) = _) => hc
      refine RetP.intro (by assumption) (by assumption) ⟨_, _, _, [_, _, _], rfl, fun q hq => hq, by k_mem, by rw [if_neg (by simpa using hc)]; exact .cons (fin_intro (by k_mem) (by k_mem)) .nil, ?a⟩; (case a => k_extra "zA")
    · rename ((_ != _) = _) => hc
      refine RetP.intro (by assumption) (by assumption) ⟨_, [], _, [_], rfl, fun q hq => hq, by k_mem, by rw [if_pos (by simpa using hc)]; exact .nil, ?a⟩; (case a => k_extra "zA")
  · have hi : isPV 2 (fetchD tab (getD tr "Root")) = false := by
      cases hf : fetchD tab (getD tr "Root") <;> first | rfl | exact absurd ⟨_, hf⟩ hD
    have hres : rootD tab tr = [fnd "root" (-1) "no dict of the document"] := by
      cases hf : fetchD tab (getD tr "Root") <;> first | (simp only [rootD, hf]; done) | exact absurd ⟨_, hf⟩ hD
    rw [hres]
    dsimp only [F408]
    repeat' (k_extra "zS"; first | k_extra "zP" | ((with_reducible show wpAny _ _ (call (Value.ref 313) _) _ _ _); (show wpAny _ _ (call (Value.ref 313) [_, _, _]) _ _ _); (refine get_use (k := Str.ofString "Root") (by k_asm) (by k_asm) (by k_asm) (by k_asm) (by k_asm) rfl (by k_extra "ROOM") (by k_extra "UNITS") hSn h6 (by k_extra "zU") hok ?_; intro rG hG tkG hvG FG NG; (try k_sweep))) | ((with_reducible show wpAny _ _ (call (Value.builtin "isinstance") [_, _]) _ _ _); refine isi_dict (by k_asm) (by k_asm) (by k_asm) (by k_asm) (by k_asm) (VIn.mono (by k_extra "zU") hvG) ?_; intro tkI; rw [hi]) | k_extra "zQ")
    refine RetP.intro (by assumption) (by assumption) ⟨_, _, _, [_, _, _], rfl, fun q hq => hq, by k_mem, .cons (fin_intro (by k_mem) (by k_mem)) .nil, ?a⟩; (case a => k_extra "zA")
  )
  k_extra "GG"
inductive CSt (w : World) (S fa I : Addr) (base : List (Addr × Obj)) (fs : List (Str × Int × Str)) (b : Nat) (m : Str → Option Value) (n : List (Addr × Obj)) : Prop
  | mk : ∀ (fv : List Value) (nf : Nat) (tl : List (Addr × Obj)), m "shelf" = some (.ref S) → m "found" = some (.ref fa) → n = (fa, listOf (List.toArray fv) nf) :: (tl ++ base) → FAll w tl fv fs → (∀ q ∈ tl, q.1 ≠ fa) → (∀ q ∈ tl, q.1 ≠ I) → Apart base tl → fv.length ≤ b → CSt w S fa I base fs b m n
inductive CStA (w : World) (S fa I I2 : Addr) (k : Int) (tk : Tok) (base ap tl : List (Addr × Obj)) (fs : List (Str × Int × Str)) (b : Nat) (m : Str → Option Value) (n : List (Addr × Obj)) : Prop
  | mk : ∀ (fv2 : List Value) (nf2 : Nat) (tl2 : List (Addr × Obj)), m "shelf" = some (.ref S) → m "found" = some (.ref fa) → m "number" = some (.int k tk) → n = (fa, listOf (List.toArray fv2) nf2) :: (tl2 ++ base) → FAll w (tl2 ++ tl) fv2 fs → (∀ q ∈ tl2, q.1 ≠ fa) → (∀ q ∈ tl2, q.1 ≠ I2) → (∀ q ∈ tl2, q.1 ≠ I) → Apart ap tl2 → fv2.length ≤ b → CStA w S fa I I2 k tk base ap tl fs b m n
inductive CStB (w : World) (S fa I2 : Addr) (base ap tl : List (Addr × Obj)) (fs : List (Str × Int × Str)) (b : Nat) (m : Str → Option Value) (n : List (Addr × Obj)) : Prop
  | mk : ∀ (fv2 : List Value) (nf2 : Nat) (tl2 : List (Addr × Obj)), m "shelf" = some (.ref S) → m "found" = some (.ref fa) → n = (fa, listOf (List.toArray fv2) nf2) :: (tl2 ++ base) → FAll w (tl2 ++ tl) fv2 fs → (∀ q ∈ tl2, q.1 ≠ fa) → (∀ q ∈ tl2, q.1 ≠ I2) → Apart ap tl2 → fv2.length ≤ b → CStB w S fa I2 base ap tl fs b m n
def lenD (tab : List (Int × Int × PV)) (k : Int) : List (Str × Int × Str) := match tabAt tab k with
  | some (_, .stream es b) => match fetchD tab (getD es "Length") with
    | .int n => if n = (b.size : Int) then [] else [fnd "length" k (msgLen n b.size)]
    | _ => [fnd "length" k "Length is no whole number"]
  | _ => []
def LenOk (tab : List (Int × Int × PV)) : Prop := ∀ k g es b, tabAt tab k = some (g, .stream es b) → FetchOk tab (getD es "Length") ∧ b.size ≤ 7 ∧ (∀ n, fetchD tab (getD es "Length") = .int n → 0 ≤ n ∧ n ≤ 9)
theorem lengths_ok (w : World) {S : Addr} {tab : List (Int × Int × PV)} {tr : List (Str × PV)} {n0 news : List (Addr × Obj)} (hS : Shelved w n0 S tab tr) (hs : ∀ q ∈ n0, q ∈ news) (hok : LenOk tab) : CallC w 429 40 240 [.ref S] news (FindPost w ((keysD tab).flatMap (lenD tab)) news) := by
  (k_with "GO" =>
  refine enterC (dc := 39) (uc := 237) (binds := [("shelf", .ref S)]) (look_429 _) (code_429 _) (fun s _ => BindsTo.of_eq rfl) (locs rfl) rfl rfl rfl (by decide) ?_
  intro dp un gd outer A₀ base g mean mg mb L s B F X N' T' hd hu
  have hSn := hS.mono hs
  clear hS hs
  have hS := hSn
  ((k_extra "V1"; obtain ⟨T, TR, oT, kvs, ⟨sd, tS, tS', nS, hS1, hS2⟩, h2, lo, hT, htab, h6, h7⟩ := hS) <;> k_extra "V2")
  have hkl := keysD_length tab
  have htl := tab_length htab
  dsimp only [F429]
  repeat' (k_extra "zS"; (fail_if_success (with_reducible show wpAny _ _ (pyIter (Value.ref _)) _ _ _)); first | k_extra "zP" | k_extra "NUMS" | k_extra "zQ")
  rename_i fa hx1 hx2 tk0; rename AllLt _ _ => lfa
  have hvl := hvS.length
  have N2 : News g L hS ((fa, listOf [].toArray 0) :: ([] ++ (DS, listOf vsS.toArray cS) :: news)) := news_sub NS (by k_extra "zU")
  refine iter_listUnr (n := cS) (vs := vsS) (lo := listOf vsS.toArray cS) (by rfl) FS N2 (by k_mem) rfl rfl (fun I hI => ?_)
  have fI : fa < I := hI (fa, _) (by k_mem)
  have dI : DS < I := hI (DS, _) (by k_mem)
  have nI : AllLt I news := allLt_of fun q hq => hI q (by k_mem)
  refine list_loop (fun i m₁ n₁ => CSt w S fa I ((DS, listOf vsS.toArray cS) :: news) (((keysD tab).take i).flatMap (lenD tab)) i m₁ n₁) ⟨[], 0, [], rfl, rfl, rfl, .nil, by simp, by simp, Apart.nil, Nat.le_refl _⟩ ?_ ?_
  · intro i v m₁ n₁ hv z5_ it h1 tk1 hc F1 N1
    ((k_extra "V1"; obtain ⟨fv, nf, tl, m1, m2, rfl, hf, o1, o2, ha, hfl⟩ := z5_) <;> k_extra "V2")
    have hil : i < vsS.length := (List.getElem?_eq_some_iff.mp hv).1
    ((k_extra "V1"; obtain ⟨k, tk, hk, rfl⟩ := ints_at hvS hv) <;> k_extra "V2")
    ((k_extra "V1"; obtain ⟨gg, d, htb⟩ := keysD_mem (List.mem_of_getElem? hk)) <;> k_extra "V2")
    refine tab_some htab htb ?_
    intro t u xv n hva hm hvx
    have hstep : ((keysD tab).take (i + 1)).flatMap (lenD tab) = ((keysD tab).take i).flatMap (lenD tab) ++ lenD tab k := by rw [List.take_add_one, hk, Option.toList_some, List.flatMap_append]; simp
    by_cases hst : ∃ es b, d = .stream es b
    · ((k_extra "V1"; obtain ⟨es, b, rfl⟩ := hst) <;> k_extra "V2")
      ((k_extra "V1"; obtain ⟨hokL, hb7, hn9⟩ := hok _ _ _ _ htb) <;> k_extra "V2")
      have hi : isPV 1 (.stream es b) = true := rfl
      have hvx0 := hvx
      refine vE_stream hvx0 ?_
      intro a d x t t' u n o kvs e_ g1 g2 g3 g4 g5 g6
      cases e_
      have hvh : VIn w news (.ref x) (.dict es) := .dict g3 g4 g5 g6
      by_cases hN : ∃ n, fetchD tab (getD es "Length") = .int n
      · ((k_extra "V1"; obtain ⟨nL, hN⟩ := hN) <;> k_extra "V2")
        ((k_extra "V1"; obtain ⟨hn0, hn1⟩ := hn9 _ hN) <;> k_extra "V2")
        repeat' (k_extra "zS"; (k_extra "TU"); first | k_extra "zP" | k_extra "zN" | ((with_reducible show wpAny _ _ (call (Value.builtin "isinstance") [_, _]) _ _ _); refine isi_stream (by k_asm) (by k_asm) (by k_asm) (by k_asm) (by k_asm) (VIn.mono (by k_extra "zU") hvx) ?_; intro tkI; rw [hi]) | ((with_reducible show wpAny _ _ (subscriptTail _ _ (Value.ref T) (Value.int _ _)) _ _ _); refine kda_item (knd := PySem.intKind _ _) (by k_asm) (by k_mem) hT (intKind_is _ _ _ _) hva ?_) | ((with_reducible show wpAny _ _ (call (Value.ref 313) _) _ _ _); (show wpAny _ _ (call (Value.ref 313) [_, _, _]) _ _ _); refine get_use (k := Str.ofString "Length") (by k_asm) (by k_asm) (by k_asm) (by k_asm) (by k_asm) rfl (by k_extra "ROOM") (by k_extra "UNITS") hSn hvh (by k_extra "zU") hokL ?_; intro rG hG tkG hvG FG NG; rw [hN] at hvG; have hvG2 := hvG; cases hvG; (try k_sweep)) | k_extra "KINDR" | ((with_reducible show ite ((Str.ofString "int" != Str.ofString "int") = true) _ _); rw [if_neg (by decide +kernel)]) | k_extra "zQ")
        · rename (News _ _ _ _) => N9; simp only [List.push_toArray] at N9
          refine unr_spl1 (c := (fa, _)) (fr := tl ++ (DS, listOf vsS.toArray cS) :: news) (by assumption) N9 (by repeat (first | exact splC2 | apply SplC.cons | apply SplC.app)) (by k_all) ⟨by k_mem, fv ++ [_], _, [_, _] ++ tl, ?m1, ?m2, rfl, ?f, by k_all, by k_all, by k_extra "zA", ?l⟩
          case m1 => k_extra "NX"
          case m2 => k_extra "NX"
          case f => rw [hstep, show lenD tab k = [fnd "length" k (msgLen nL b.size)] by simp only [lenD, htb, hN]; exact if_neg (by assumption)]; exact (hf.mono fun q hq => List.mem_append_right _ hq).append (.cons (fin_intro (by k_mem) (by k_mem)) .nil)
          case l => rw [List.length_append]; exact Nat.succ_le_succ hfl
        · rename (News _ _ _ _) => N9
          refine unr_spl1 (c := (fa, _)) (fr := tl ++ (DS, listOf vsS.toArray cS) :: news) (by assumption) N9 (by repeat (first | exact splC2 | apply SplC.cons | apply SplC.app)) (by k_all) ⟨by k_mem, fv, _, tl, ?m1, ?m2, rfl, ?f, by k_all, by k_all, by k_extra "zA", ?l⟩
          case m1 => k_extra "NX"
          case m2 => k_extra "NX"
          case f => rw [hstep, show lenD tab k = [] by simp only [lenD, htb, hN]; exact if_pos (by assumption), List.append_nil]; exact hf
          case l => omega
      · have k1 : (kindD (fetchD tab (getD es "Length")) != Str.ofString "int") = true := by
          cases hf : fetchD tab (getD es "Length") <;> first | (simp only [kindD]; decide +kernel) | exact absurd ⟨_, hf⟩ hN
        repeat' (k_extra "zS"; (k_extra "TU"); first | k_extra "zP" | k_extra "zN" | ((with_reducible show wpAny _ _ (call (Value.builtin "isinstance") [_, _]) _ _ _); refine isi_stream (by k_asm) (by k_asm) (by k_asm) (by k_asm) (by k_asm) (VIn.mono (by k_extra "zU") hvx) ?_; intro tkI; rw [hi]) | ((with_reducible show wpAny _ _ (subscriptTail _ _ (Value.ref T) (Value.int _ _)) _ _ _); refine kda_item (knd := PySem.intKind _ _) (by k_asm) (by k_mem) hT (intKind_is _ _ _ _) hva ?_) | ((with_reducible show wpAny _ _ (call (Value.ref 313) _) _ _ _); (show wpAny _ _ (call (Value.ref 313) [_, _, _]) _ _ _); refine get_use (k := Str.ofString "Length") (by k_asm) (by k_asm) (by k_asm) (by k_asm) (by k_asm) rfl (by k_extra "ROOM") (by k_extra "UNITS") hSn hvh (by k_extra "zU") hokL ?_; intro rG hG tkG hvG FG NG; skip; (try k_sweep)) | k_extra "KINDR0" | ((with_reducible show ite ((kindD _ != _) = true) _ _); rw [if_pos k1]) | k_extra "zQ")
        rename (News _ _ _ _) => N9; simp only [List.push_toArray] at N9
        refine unr_spl1 (c := (fa, _)) (fr := tl ++ (DS, listOf vsS.toArray cS) :: news) (by assumption) N9 (by repeat (first | exact splC2 | apply SplC.cons | apply SplC.app)) (by k_all) ⟨by k_mem, fv ++ [_], _, [_, _] ++ tl, ?m1, ?m2, rfl, ?f, by k_all, by k_all, by k_extra "zA", ?l⟩
        case m1 => k_extra "NX"
        case m2 => k_extra "NX"
        case f => rw [hstep, show lenD tab k = [fnd "length" k "Length is no whole number"] by simp only [lenD, htb]; cases hf2 : fetchD tab (getD es "Length") <;> first | rfl | exact absurd ⟨_, hf2⟩ hN]; exact (hf.mono fun q hq => List.mem_append_right _ hq).append (.cons (fin_intro (by k_mem) (by k_mem)) .nil)
        case l => rw [List.length_append]; exact Nat.succ_le_succ hfl
    · have hi : isPV 1 d = false := by cases d <;> first | rfl | exact absurd ⟨_, _, rfl⟩ hst
      have hres : lenD tab k = [] := by simp only [lenD, htb]; cases d <;> first | rfl | exact absurd ⟨_, _, rfl⟩ hst
      repeat' (k_extra "zS"; (k_extra "TU"); first | k_extra "zP" | k_extra "zN" | ((with_reducible show wpAny _ _ (call (Value.builtin "isinstance") [_, _]) _ _ _); refine isi_stream (by k_asm) (by k_asm) (by k_asm) (by k_asm) (by k_asm) (VIn.mono (by k_extra "zU") hvx) ?_; intro tkI; rw [hi]) | ((with_reducible show wpAny _ _ (subscriptTail _ _ (Value.ref T) (Value.int _ _)) _ _ _); refine kda_item (knd := PySem.intKind _ _) (by k_asm) (by k_mem) hT (intKind_is _ _ _ _) hva ?_) | k_extra "zQ")
      rename (News _ _ _ _) => N9
      refine unr_spl1 (c := (fa, _)) (fr := tl ++ (DS, listOf vsS.toArray cS) :: news) (by assumption) N9 (by repeat (first | exact splC2 | apply SplC.cons | apply SplC.app)) (by k_all) ⟨by k_mem, fv, _, tl, ?m1, ?m2, rfl, ?f, by k_all, by k_all, by k_extra "zA", ?l⟩
      case m1 => k_extra "NX"
      case m2 => k_extra "NX"
      case f => rw [hstep, hres, List.append_nil]; exact hf
      case l => omega
  · intro m₁ n₁ h1 tk1 z4_ F1 N1
    ((k_extra "V1"; obtain ⟨fv, nf, tl, m1, m2, rfl, hf, o1, o2, ha, hfl⟩ := z4_) <;> k_extra "V2")
    repeat' (k_extra "zS"; first | k_extra "zP" | k_extra "zN" | k_extra "zQ")
    rw [hvl, List.take_length] at hf
    refine RetP.intro F1 N1 ⟨fa, fv, nf, (fa, listOf (List.toArray fv) nf) :: (tl ++ [(DS, listOf vsS.toArray cS)]), rfl, ?s, by k_mem, hf.mono fun q hq => List.mem_cons_of_mem _ (List.mem_append_left _ hq), ?a⟩
    case s => intro q hq; simpa using hq
    case a => 
      have ha' : Apart news tl := fun q hq => ha q (by k_mem)
      exact Apart.cons (by k_all) (by k_extra "zA")
  )
  k_extra "GG"
def refsD (d : PV) : List (Int × Int) := addNew [] (refsF 6 d)
def msgRef (q : Int × Int) : Str := Str.ofString "to no object: " ++ Str.ofString (toString q.1) ++ Str.ofString " " ++ Str.ofString (toString q.2)
def refRow (tab : List (Int × Int × PV)) (place : Int) (q : Int × Int) : List (Str × Int × Str) := if thereD tab q = true then [] else [fnd "reference" place (msgRef q)]
def refRows (tab : List (Int × Int × PV)) (place : Int) (qs : List (Int × Int)) : List (Str × Int × Str) := qs.flatMap (refRow tab place)
def valOf (tab : List (Int × Int × PV)) (k : Int) : PV := match tabAt tab k with
  | some (_, d) => d
  | none => .none
def RefOk (d : PV) : Prop := ToldOk 6 d ∧ sizeF 6 d ≤ 900 ∧ (refsD d).length ≤ 10 ∧ ∀ q ∈ refsD d, 0 ≤ q.1 ∧ q.1 ≤ 99 ∧ 0 ≤ q.2 ∧ q.2 ≤ 9
theorem refRow_len (tab : List (Int × Int × PV)) (place : Int) (q : Int × Int) : (refRow tab place q).length ≤ 1 := by unfold refRow; split <;> simp
theorem refRows_len (tab : List (Int × Int × PV)) (place : Int) : ∀ qs : List (Int × Int), (refRows tab place qs).length ≤ qs.length
  | [] => Nat.le_refl _
  | q :: qs => by
    have h1 := refRow_len tab place q
    have h2 := refRows_len tab place qs
    unfold refRows at h2 ⊢
    rw [List.flatMap_cons, List.length_append, List.length_cons]; omega
section use
variable {w : World} {dp un : Nat} {gd : Option (List Code)} {cn : Str} {cs : Scope} {a : Addr} {ccd : Value} {cl : List (Str × Addr)} {outer : List Env} {A₀ : Around} {base h₀ : Heap} {mean : ExcName → Option Value} {mg mb : Str → Option Value} {L : Addr} {m : Str → Option Value} {s : Shared} {Q E : Value → Shared → Prop} {news n0 : List (Addr × Obj)}
theorem refs_use {v : Value} {d : PV} {n : Nat}
    (B : Below A₀ base outer h₀) (F : Fr h₀ L s.heap m) (X : (K w.params).In h₀) (N : News h₀ L s.heap news) (T' : TopV mean mg mb h₀) (hk : cs.kind = .function) (hd : dp + 40 < recursionLimit) (hu : un + 240 < cLine) (h : VIn w n0 v d) (hs : ∀ q ∈ n0, q ∈ news) (hok : ToldOk n d) (hsz : sizeF n d ≤ 900)
    (ret : ∀ D vs c tl h' tk', Fr h₀ L h' m → News h₀ L h' (tl ++ news) → (D, listOf (List.toArray vs) c) ∈ tl → PairsAt tl vs (addNew [] (refsF n d)) → Apart news tl → Q (.ref D) { s with heap := h', toks := tk' }) :
    wpAny (model PG w) (ktrTop dp un gd cn cs L a ccd cl outer) (call (.ref 284) [v]) Q E s := by
  refine (refs_ok w (h.mono hs) hok hsz).use B F X N T' (fun p hp => hp) hk (by omega) (by omega) ?_
  intro r news' h' tk' F2 N2 z6_
  ((k_extra "V1"; obtain ⟨tl, g1, g2, g3⟩ := z6_) <;> k_extra "V2")
  ((k_extra "V1"; obtain ⟨l, vs, c, rfl, g4, g5⟩ := pairs_inv g2) <;> k_extra "V2")
  exact ret l vs c tl h' tk' F2 (fun q hq => N2 q (g1 q hq)) g4 g5 g3
theorem there_use {S P : Addr} {tab : List (Int × Int × PV)} {tr : List (Str × PV)} {x y : Int} {u u' : Tok} {n : Nat}
    (B : Below A₀ base outer h₀) (F : Fr h₀ L s.heap m) (X : (K w.params).In h₀) (N : News h₀ L s.heap news) (T' : TopV mean mg mb h₀) (hk : cs.kind = .function) (hd : dp + 10 < recursionLimit) (hu : un + 60 < cLine) (hS : Shelved w n0 S tab tr) (hs : ∀ q ∈ n0, q ∈ news) (hP : (P, ({ cls := .type "tuple", data := .seq #[.int x u, .int y u'] n } : Obj)) ∈ news)
    (ret : ∀ h' tk', Fr h₀ L h' m → News h₀ L h' news → Q (.bool (thereD tab (x, y))) { s with heap := h', toks := tk' }) :
    wpAny (model PG w) (ktrTop dp un gd cn cs L a ccd cl outer) (call (.ref 28) [.ref S, .ref P]) Q E s := by
  refine (there_ok w hS hs hP).use B F X N T' (fun p hp => hp) hk (by omega) (by omega) ?_
  intro r news' h' tk' F2 N2 z6_
  ((k_extra "V1"; obtain ⟨rfl, g1⟩ := z6_) <;> k_extra "V2")
  exact ret h' tk' F2 (fun q hq => N2 q (g1 q hq))
end use
theorem chkrefs_ok (w : World) {S : Addr} {tab : List (Int × Int × PV)} {tr : List (Str × PV)} {n0 news : List (Addr × Obj)} (hS : Shelved w n0 S tab tr) (hs : ∀ q ∈ n0, q ∈ news) (hok : ∀ k g d, tabAt tab k = some (g, d) → RefOk d) (hok2 : RefOk (.dict tr)) : CallC w 422 60 360 [.ref S] news (FindPost w ((keysD tab).flatMap (fun k => refRows tab k (refsD (valOf tab k))) ++ refRows tab (-1) (refsD (.dict tr))) news) := by
  (k_with "GO" =>
  refine enterC (dc := 59) (uc := 357) (binds := [("shelf", .ref S)]) (look_422 _) (code_422 _) (fun s _ => BindsTo.of_eq rfl) (locs rfl) rfl rfl rfl (by decide) ?_
  intro dp un gd outer A₀ base g mean mg mb L s B F X N' T' hd hu
  have hSn := hS.mono hs
  clear hS hs
  have hS := hSn
  ((k_extra "V1"; obtain ⟨T, TR, oT, kvs, ⟨sd, tS, tS', nS, hS1, hS2⟩, h2, lo, hT, htab, h6, h7⟩ := hS) <;> k_extra "V2")
  have hkl := keysD_length tab
  have htl := tab_length htab
  dsimp only [F422]
  repeat' (k_extra "zS"; (fail_if_success (with_reducible show wpAny _ _ (pyIter (Value.ref _)) _ _ _)); first | k_extra "zP" | k_extra "NUMS" | k_extra "zQ")
  rename_i fa hx1 hx2 tk0; rename AllLt _ _ => lfa
  have hvl := hvS.length
  have N2 : News g L hS ((fa, listOf [].toArray 0) :: ([] ++ (DS, listOf vsS.toArray cS) :: news)) := news_sub NS (by k_extra "zU")
  refine iter_listUnr (n := cS) (vs := vsS) (lo := listOf vsS.toArray cS) (by rfl) FS N2 (by k_mem) rfl rfl (fun I hI => ?_)
  have fI : fa < I := hI (fa, _) (by k_mem)
  have dI : DS < I := hI (DS, _) (by k_mem)
  have nI : AllLt I news := allLt_of fun q hq => hI q (by k_mem)
  refine list_loop (fun i m₁ n₁ => CSt w S fa I ((DS, listOf vsS.toArray cS) :: news) (((keysD tab).take i).flatMap fun k => refRows tab k (refsD (valOf tab k))) (10 * i) m₁ n₁) ⟨[], 0, [], rfl, rfl, rfl, .nil, by simp, by simp, Apart.nil, Nat.le_refl _⟩ ?_ ?_
  · intro i v m₁ n₁ hv z5_ it h1 tk1 hc F1 N1
    ((k_extra "V1"; obtain ⟨fv, nf, tl, m1, m2, rfl, hf, o1, o2, ha, hfl⟩ := z5_) <;> k_extra "V2")
    have hil : i < vsS.length := (List.getElem?_eq_some_iff.mp hv).1
    ((k_extra "V1"; obtain ⟨k, tk, hk, rfl⟩ := ints_at hvS hv) <;> k_extra "V2")
    ((k_extra "V1"; obtain ⟨gg, d, htb⟩ := keysD_mem (List.mem_of_getElem? hk)) <;> k_extra "V2")
    refine tab_some htab htb ?_
    intro t u xv n hva hm hvx
    ((k_extra "V1"; obtain ⟨hk1, hk2, hk3, hk4⟩ := hok _ _ _ htb) <;> k_extra "V2")
    have hstep : (((keysD tab).take (i + 1)).flatMap fun k => refRows tab k (refsD (valOf tab k))) = (((keysD tab).take i).flatMap fun k => refRows tab k (refsD (valOf tab k))) ++ refRows tab k (refsD d) := by rw [List.take_add_one, hk, Option.toList_some, List.flatMap_append]; simp [valOf, htb]
    repeat' (k_extra "zS"; (fail_if_success (with_reducible show wpAny _ _ (pyIter (Value.ref _)) _ _ _)); first | k_extra "zP" | k_extra "zN" | ((with_reducible show wpAny _ _ (subscriptTail _ _ (Value.ref T) (Value.int _ _)) _ _ _); refine kda_item (knd := PySem.intKind _ _) (by k_asm) (by k_mem) hT (intKind_is _ _ _ _) hva ?_) | ((with_reducible show wpAny _ _ (call (Value.ref 284) _) _ _ _); (show wpAny _ _ (call (Value.ref 284) [_]) _ _ _); refine refs_use (n := 6) (by k_asm) (by k_asm) (by k_asm) (by k_asm) (by k_asm) (by first | rfl | assumption) (by k_extra "ROOM") (by k_extra "UNITS") hvx (by k_extra "zU") hk1 hk2 ?_; intro RD rvs cR tlR hRh tkR FR NR hR1 hR2 hR3; (try k_sweep)) | k_extra "zQ")
    have hR2l := hR2.length
    have hd10 : (refsD d).length ≤ 10 := hk3
    change PairsAt tlR rvs (refsD d) at hR2
    change rvs.length = (refsD d).length at hR2l
    have N3 : News g L hRh ((fa, listOf fv.toArray nf) :: ([] ++ (tlR ++ (I, it) :: (tl ++ (DS, listOf vsS.toArray cS) :: news)))) := news_sub NR (by k_extra "zU")
    refine iter_listUnr (n := cR) (vs := rvs) (lo := listOf rvs.toArray cR) (by rfl) FR N3 (by k_mem) rfl rfl (fun I2 hI2 => ?_)
    have fI2 : fa < I2 := hI2 (fa, _) (by k_mem)
    have dI2 : DS < I2 := hI2 (DS, _) (by k_mem)
    have nI2 : AllLt I2 news := allLt_of fun q hq => hI2 q (by k_mem)
    have tI2 : AllLt I2 tl := allLt_of fun q hq => hI2 q (by k_mem)
    have rI2 : AllLt I2 tlR := allLt_of fun q hq => hI2 q (by k_mem)
    have rfa : ∀ q ∈ tlR, q.1 ≠ fa := hR3.ne (d := fa) (by k_mem)
    have ra : Apart ((DS, listOf vsS.toArray cS) :: news) tlR := fun q hq => hR3 q (by rcases List.mem_cons.mp hq with rfl | hq <;> k_mem)
    have II2 : I < I2 := hI2 (I, _) (by k_mem)
    have rI : ∀ q ∈ tlR, q.1 ≠ I := hR3.ne (d := I) (by k_mem)
    refine list_loop (fun j m n => CStA w S fa I I2 k tk (tlR ++ (I, it) :: (tl ++ (DS, listOf vsS.toArray cS) :: news)) ((DS, listOf vsS.toArray cS) :: news) tl ((((keysD tab).take i).flatMap fun k => refRows tab k (refsD (valOf tab k))) ++ refRows tab k ((refsD d).take j)) (10 * i + j) m n) ⟨fv, nf, [], (if_neg (by decide +kernel)).trans m1, (if_neg (by decide +kernel)).trans m2, rfl, rfl, by rw [List.take_zero, show refRows tab k [] = [] from rfl, List.append_nil]; exact hf, by simp, by simp, by simp, Apart.nil, hfl⟩ ?_ ?_
    · intro j v m₂ n₂ hv2 z5_ it2 h2x tk2 hc2 F2 N2
      ((k_extra "V1"; obtain ⟨fv2, nf2, tl2, m1, m2, m3, rfl, hf2, o3, o4, o5, ha2, hfl2⟩ := z5_) <;> k_extra "V2")
      ((k_extra "V1"; obtain ⟨t2, qa, qb, uq, uq', nq, rfl, hmq, hq⟩ := hR2.at hv2) <;> k_extra "V2")
      ((k_extra "V1"; obtain ⟨q1, q2, q3, q4⟩ := hk4 _ (List.mem_of_getElem? hq)) <;> k_extra "V2")
      dsimp only at q1 q2 q3 q4
      have hst2 : refRows tab k ((refsD d).take (j + 1)) = refRows tab k ((refsD d).take j) ++ refRow tab k (qa, qb) := by unfold refRows; rw [List.take_add_one, hq, Option.toList_some, List.flatMap_append]; simp
      have hjl : j < 10 := by
        have := (List.getElem?_eq_some_iff.mp hq).1
        omega
      by_cases hth : thereD tab (qa, qb) = true
      · repeat' (k_extra "zS"; (k_extra "TU"); first | k_extra "zP" | k_extra "zN" | ((with_reducible show wpAny _ _ (call (Value.ref 28) _) _ _ _); (show wpAny _ _ (call (Value.ref 28) [_, _]) _ _ _); refine there_use (by k_asm) (by k_asm) (by k_asm) (by k_asm) (by k_asm) (by first | rfl | assumption) (by k_extra "ROOM") (by k_extra "UNITS") hSn (by k_extra "zU") (by k_mem) ?_; intro hTh tkTh FTh NTh; rw [hth]; (try k_sweep)) | k_extra "zQ")
        rename (News _ _ _ _) => N9
        refine unr_spl1 (c := (fa, _)) (fr := tl2 ++ (tlR ++ (I, it) :: (tl ++ (DS, listOf vsS.toArray cS) :: news))) (by assumption) N9 (by repeat (first | exact splC2 | apply SplC.cons | apply SplC.app)) (by k_all) ⟨by k_mem, fv2, _, tl2, ?m1, ?m2, ?m3, rfl, ?f, by k_all, by k_all, by k_all, by k_extra "zA", ?l⟩
        case m1 => k_extra "NX"
        case m2 => k_extra "NX"
        case m3 => k_extra "NX"
        case f => rw [hst2, show refRow tab k (qa, qb) = [] from if_pos hth, List.append_nil]; exact hf2
        case l => omega
      · have hth2 : thereD tab (qa, qb) = false := by simpa using hth
        repeat' (k_extra "zS"; (k_extra "TU"); first | k_extra "zP" | k_extra "zN" | ((with_reducible show wpAny _ _ (call (Value.ref 28) _) _ _ _); (show wpAny _ _ (call (Value.ref 28) [_, _]) _ _ _); refine there_use (by k_asm) (by k_asm) (by k_asm) (by k_asm) (by k_asm) (by first | rfl | assumption) (by k_extra "ROOM") (by k_extra "UNITS") hSn (by k_extra "zU") (by k_mem) ?_; intro hTh tkTh FTh NTh; rw [hth2]; (try k_sweep)) | k_extra "zQ")
        rename (News _ _ _ _) => N9; simp only [List.push_toArray] at N9
        refine unr_spl1 (c := (fa, _)) (fr := tl2 ++ (tlR ++ (I, it) :: (tl ++ (DS, listOf vsS.toArray cS) :: news))) (by assumption) N9 (by repeat (first | exact splC2 | apply SplC.cons | apply SplC.app)) (by k_all) ⟨by k_mem, fv2 ++ [_], _, [_, _] ++ tl2, ?m1, ?m2, ?m3, rfl, ?f, by k_all, by k_all, by k_all, by k_extra "zA", ?l⟩
        case m1 => k_extra "NX"
        case m2 => k_extra "NX"
        case m3 => k_extra "NX"
        case f => rw [hst2, show refRow tab k (qa, qb) = [fnd "reference" k (msgRef (qa, qb))] from if_neg hth, ← List.append_assoc]; exact (hf2.mono (by k_extra "zU")).append (.cons (fin_intro (by k_mem) (by k_mem)) .nil)
        case l => rw [List.length_append]; exact Nat.succ_le_succ hfl2
    · intro m₂ n₂ h2x tk2 z4_ F2 N2
      ((k_extra "V1"; obtain ⟨fv2, nf2, tl2, m1, m2, m3, rfl, hf2, o3, o4, o5, ha2, hfl2⟩ := z4_) <;> k_extra "V2")
      rw [hR2l, List.take_length] at hf2
      repeat' (k_extra "zS"; (k_extra "TU"); first | k_extra "zP" | k_extra "zN" | k_extra "zQ")
      refine unr_intro (by assumption) N2 ((fa, listOf fv2.toArray nf2) :: ((tl2 ++ tlR ++ tl) ++ (DS, listOf vsS.toArray cS) :: news)) ?s (by k_all) ⟨by k_mem, fv2, _, tl2 ++ tlR ++ tl, ?m1, ?m2, rfl, ?f, by k_all, by k_all, by k_extra "zA", by omega⟩
      case s => k_extra "zU"
      case m1 => k_extra "NX"
      case m2 => k_extra "NX"
      case f => rw [hstep]; exact hf2.mono (by k_extra "zU")
  · intro m₁ n₁ h1 tk1 z4_ F1 N1
    ((k_extra "V1"; obtain ⟨fv, nf, tl, m1, m2, rfl, hf, o1, o2, ha, hfl⟩ := z4_) <;> k_extra "V2")
    repeat' (k_extra "zS"; (fail_if_success (with_reducible show wpAny _ _ (pyIter (Value.ref _)) _ _ _)); first | k_extra "zP" | k_extra "zN" | ((with_reducible show wpAny _ _ (call (Value.ref 284) _) _ _ _); (show wpAny _ _ (call (Value.ref 284) [_]) _ _ _); refine refs_use (n := 6) (by k_asm) (by k_asm) (by k_asm) (by k_asm) (by k_asm) (by first | rfl | assumption) (by k_extra "ROOM") (by k_extra "UNITS") h6 (by k_extra "zU") hok2.1 hok2.2.1 ?_; intro RD rvs cR tlR hRh tkR FR NR hR1 hR2 hR3; (try k_sweep)) | k_extra "zQ")
    rw [hvl, List.take_length] at hf
    have hf500 : fv.length ≤ 500 := by omega
    have hR2l := hR2.length
    have hd10 : (refsD (.dict tr)).length ≤ 10 := hok2.2.2.1
    change PairsAt tlR rvs (refsD (.dict tr)) at hR2
    change rvs.length = (refsD (.dict tr)).length at hR2l
    have N3 : News g L hRh ((fa, listOf fv.toArray nf) :: ([] ++ (tlR ++ (tl ++ (DS, listOf vsS.toArray cS) :: news)))) := news_sub NR (by k_extra "zU")
    refine iter_listUnr (n := cR) (vs := rvs) (lo := listOf rvs.toArray cR) (by rfl) FR N3 (by k_mem) rfl rfl (fun I2 hI2 => ?_)
    have fI2 : fa < I2 := hI2 (fa, _) (by k_mem)
    have dI2 : DS < I2 := hI2 (DS, _) (by k_mem)
    have nI2 : AllLt I2 news := allLt_of fun q hq => hI2 q (by k_mem)
    have tI2 : AllLt I2 tl := allLt_of fun q hq => hI2 q (by k_mem)
    have rI2 : AllLt I2 tlR := allLt_of fun q hq => hI2 q (by k_mem)
    have rfa : ∀ q ∈ tlR, q.1 ≠ fa := hR3.ne (d := fa) (by k_mem)
    have ra : Apart ((DS, listOf vsS.toArray cS) :: news) tlR := fun q hq => hR3 q (by rcases List.mem_cons.mp hq with rfl | hq <;> k_mem)
    refine list_loop (fun j m n => CStB w S fa I2 (tlR ++ (tl ++ (DS, listOf vsS.toArray cS) :: news)) ((DS, listOf vsS.toArray cS) :: news) tl (((keysD tab).flatMap fun k => refRows tab k (refsD (valOf tab k))) ++ refRows tab (-1) ((refsD (.dict tr)).take j)) (500 + j) m n) ⟨fv, nf, [], m1, m2, rfl, by rw [List.take_zero, show refRows tab (-1) [] = [] from rfl, List.append_nil]; exact hf, by simp, by simp, Apart.nil, hf500⟩ ?_ ?_
    · intro j v m₂ n₂ hv2 z5_ it2 h2x tk2 hc2 F2 N2
      ((k_extra "V1"; obtain ⟨fv2, nf2, tl2, m1, m2, rfl, hf2, o3, o4, ha2, hfl2⟩ := z5_) <;> k_extra "V2")
      ((k_extra "V1"; obtain ⟨t2, qa, qb, uq, uq', nq, rfl, hmq, hq⟩ := hR2.at hv2) <;> k_extra "V2")
      ((k_extra "V1"; obtain ⟨q1, q2, q3, q4⟩ := hok2.2.2.2 _ (List.mem_of_getElem? hq)) <;> k_extra "V2")
      dsimp only at q1 q2 q3 q4
      have hst2 : refRows tab (-1) ((refsD (.dict tr)).take (j + 1)) = refRows tab (-1) ((refsD (.dict tr)).take j) ++ refRow tab (-1) (qa, qb) := by unfold refRows; rw [List.take_add_one, hq, Option.toList_some, List.flatMap_append]; simp
      have hjl : j < 10 := by
        have := (List.getElem?_eq_some_iff.mp hq).1
        omega
      by_cases hth : thereD tab (qa, qb) = true
      · repeat' (k_extra "zS"; (k_extra "TU"); first | k_extra "zP" | k_extra "zN" | ((with_reducible show wpAny _ _ (call (Value.ref 28) _) _ _ _); (show wpAny _ _ (call (Value.ref 28) [_, _]) _ _ _); refine there_use (by k_asm) (by k_asm) (by k_asm) (by k_asm) (by k_asm) (by first | rfl | assumption) (by k_extra "ROOM") (by k_extra "UNITS") hSn (by k_extra "zU") (by k_mem) ?_; intro hTh tkTh FTh NTh; rw [hth]; (try k_sweep)) | k_extra "zQ")
        rename (News _ _ _ _) => N9
        refine unr_spl1 (c := (fa, _)) (fr := tl2 ++ (tlR ++ (tl ++ (DS, listOf vsS.toArray cS) :: news))) (by assumption) N9 (by repeat (first | exact splC2 | apply SplC.cons | apply SplC.app)) (by k_all) ⟨by k_mem, fv2, _, tl2, ?m1, ?m2, rfl, ?f, by k_all, by k_all, by k_extra "zA", ?l⟩
        case m1 => k_extra "NX"
        case m2 => k_extra "NX"
        case f => rw [hst2, show refRow tab (-1) (qa, qb) = [] from if_pos hth, List.append_nil]; exact hf2
        case l => omega
      · have hth2 : thereD tab (qa, qb) = false := by simpa using hth
        repeat' (k_extra "zS"; (k_extra "TU"); first | k_extra "zP" | k_extra "zN" | ((with_reducible show wpAny _ _ (call (Value.ref 28) _) _ _ _); (show wpAny _ _ (call (Value.ref 28) [_, _]) _ _ _); refine there_use (by k_asm) (by k_asm) (by k_asm) (by k_asm) (by k_asm) (by first | rfl | assumption) (by k_extra "ROOM") (by k_extra "UNITS") hSn (by k_extra "zU") (by k_mem) ?_; intro hTh tkTh FTh NTh; rw [hth2]; (try k_sweep)) | k_extra "zQ")
        rename (News _ _ _ _) => N9; simp only [List.push_toArray] at N9
        refine unr_spl1 (c := (fa, _)) (fr := tl2 ++ (tlR ++ (tl ++ (DS, listOf vsS.toArray cS) :: news))) (by assumption) N9 (by repeat (first | exact splC2 | apply SplC.cons | apply SplC.app)) (by k_all) ⟨by k_mem, fv2 ++ [_], _, [_, _] ++ tl2, ?m1, ?m2, rfl, ?f, by k_all, by k_all, by k_extra "zA", ?l⟩
        case m1 => k_extra "NX"
        case m2 => k_extra "NX"
        case f => rw [hst2, show refRow tab (-1) (qa, qb) = [fnd "reference" (-1) (msgRef (qa, qb))] from if_neg hth, ← List.append_assoc]; exact (hf2.mono (by k_extra "zU")).append (.cons (fin_intro (by k_mem) (by k_mem)) .nil)
        case l => rw [List.length_append]; exact Nat.succ_le_succ hfl2
    · intro m₂ n₂ h2x tk2 z4_ F2 N2
      ((k_extra "V1"; obtain ⟨fv2, nf2, tl2, m1, m2, rfl, hf2, o3, o4, ha2, hfl2⟩ := z4_) <;> k_extra "V2")
      rw [hR2l, List.take_length] at hf2
      repeat' (k_extra "zS"; (k_extra "TU"); first | k_extra "zP" | k_extra "zN" | k_extra "zQ")
      refine RetP.intro F2 N2 ⟨fa, fv2, nf2, (fa, listOf (List.toArray fv2) nf2) :: (tl2 ++ tlR ++ tl ++ [(DS, listOf vsS.toArray cS)]), rfl, ?s, by k_mem, hf2.mono (by k_extra "zU"), ?a⟩
      case s => intro q hq; simpa using hq
      case a =>
        have ha1 : Apart news tl := fun q hq => ha q (by k_mem)
        have ha3 : Apart news tl2 := fun q hq => ha2 q (by k_mem)
        have ha4 : Apart news tlR := fun q hq => ra q (by k_mem)
        exact Apart.cons (by k_all) (by k_extra "zA")
  )
  k_extra "GG"
def numD (tab : List (Int × Int × PV)) (d : PV) : Bool := [Str.ofString "int", Str.ofString "real"].any fun x => x == kindD (fetchD tab d)
def boxD (tab : List (Int × Int × PV)) (d : PV) : Bool := match d with
  | .arr l => l.length == 4 && l.all (numD tab)
  | _ => false
theorem vall_at {w : World} {n0 : List (Addr × Obj)} : ∀ {vs : List Value} {ds : List PV}, VAll w n0 vs ds → ∀ {i : Nat} {v : Value}, vs[i]? = some v → ∃ d, ds[i]? = some d ∧ VIn w n0 v d
  | [], _, h, i, v, e => by simp at e
  | x :: vs, _, h, i, v, e => by
    k_extra "V0"
    cases h with
    | cons a b =>
      k_extra "V2"
      cases i with
      | zero => simp only [List.getElem?_cons_zero, Option.some.injEq] at e; subst e; exact ⟨_, rfl, a⟩
      | succ i => simp only [List.getElem?_cons_succ] at e ⊢; exact vall_at b e
theorem eq_empty {prog : Program} {w : World} {A : Around} {E : Value → Shared → Prop} {s : Shared} {Q : Value → Shared → Prop} {l b : Addr} {ys : List Value} (hl : s.heap.IsList l ys.toArray) (hb : s.heap.IsList b #[]) (hu : A.units < cLine) (h : Q (.bool (ys.length == 0)) s) : wpAny (model prog w) A (compareOp .Eq (.ref l) (.ref b)) Q E s := by
  cases ys with
  | nil => exact SeqAt.eq_listAt (e := fun _ => true) hl hb rfl hu (fun j h1 _ => absurd h1 (Nat.not_lt_zero _)) h
  | cons y ys => exact SeqAt.eq_list_lengthsAt hl hb (by simp) hu h
theorem box_all {tab : List (Int × Int × PV)} {l : List PV} {ys : List Value} (he : l.length = 4) (hJ : ys.length = (l.filter fun x => !numD tab x).length) : (ys.length == 0) = boxD tab (.arr l) := by
  simp only [boxD, he, hJ]
  rw [Bool.eq_iff_iff]
  simp [List.filter_eq_nil_iff]
abbrev BoxPost (b : Bool) (news : List (Addr × Obj)) (r : Value) (news' : List (Addr × Obj)) : Prop := r = .bool b ∧ ∀ q ∈ news, q ∈ news'
theorem box_ok (w : World) {S : Addr} {tab : List (Int × Int × PV)} {tr : List (Str × PV)} {v : Value} {d : PV} {n0 news : List (Addr × Obj)} (hS : Shelved w n0 S tab tr) (h : VIn w n0 v d) (hs : ∀ q ∈ n0, q ∈ news) (hok : ∀ l, d = .arr l → ∀ x ∈ l, FetchOk tab x) (hlen : ∀ l, d = .arr l → l.length ≤ 1000) : CallC w 434 40 240 [.ref S, v] news (BoxPost (boxD tab d) news) := by
  (k_with "GO" =>
  refine CallC.gen fun PQ hPQ => ?_
  refine enterCC (dc := 39) (uc := 237) (binds := [("shelf", .ref S), ("value", v)]) (look_434 _) (code_434 _) (fun s _ => BindsTo.of_eq rfl) rfl (by decide +kernel) rfl rfl rfl ?_
  intro dp un gd outer A₀ base g mean mg mb L s cells B F X N' Y l1 T' hd hu
  replace l1 := allLt_of l1
  k_cells Y
  simp only [List.cons_append, List.nil_append] at N'
  rename (_ = Data.cell _) => hcell
  rename_i oce
  change Fr g L s.heap (fun y => if y = "value" then some v else none) at F
  change _ = Data.cell (some (.ref S)) at hcell
  have hSn := hS.mono hs
  have h' := h.mono hs
  clear hS h hs
  have hS := hSn
  ((k_extra "V1"; obtain ⟨T, TR, oT, kvs, ⟨sd, tS, tS', nS, hS1, hS2⟩, h2, lo, hT, htab, h6, h7⟩ := hS) <;> k_extra "V2")
  by_cases hD : ∃ l, d = .arr l
  · ((k_extra "V1"; obtain ⟨l, rfl⟩ := hD) <;> k_extra "V2")
    have hok1 := hok l rfl
    have hlen1 := hlen l rfl
    clear hok hlen
    have hv0 := h'
    refine vE_arr h' ?_
    intro a vs n e_ hm hv
    cases e_
    have hvl := vall_length hv
    dsimp only [F434]
    repeat' (k_extra "zS"; (fail_if_success (with_reducible show LCt.CompSrcT _ _ _ _ _ _ _ _ _ _ _ _ _ _ _)); first | k_extra "zP" | k_extra "KINDR0" | ((with_reducible show wpAny _ _ (call (Value.builtin "isinstance") [_, _]) _ _ _); refine isi_list (by k_asm) (by k_asm) (by k_asm) (by k_asm) (by k_asm) (VIn.mono (by k_extra "zU") hv0) ?_; intro tkI; rw [show isPV 3 (.arr l) = true from rfl]) | k_extra "zQ")
    · refine RetP.intro (by assumption) (by assumption) (hPQ _ _ ⟨?r, by k_extra "zU"⟩)
      have hne : l.length ≠ 4 := by omega
      show Value.bool false = Value.bool _
      rw [show boxD tab (.arr l) = false by simp [boxD, hne]]
    · have he : l.length = 4 := by omega
      refine LCt.CompSrcT.ledger (by rfl) (by k_asm) (by k_asm) (by k_mem) (by rw [sizeLine_eq, List.size_toArray]; omega) ?_
      intro g1
      refine compT_pure (fun i tl ys => ys.length = ((l.take i).filter fun x => !numD tab x).length) rfl ?_ ?_
      · intro i x ys tl hi hx hta hJ I oI C oC D m2 h1 tk1 E' hNs hx2 F1 N1 o1 o2 ne
        ((k_extra "V1"; obtain ⟨d, hd1, hvx⟩ := vall_at hv (by simpa using hx)) <;> k_extra "V2")
        have hokx := hok1 d (List.mem_of_getElem? hd1)
        ((k_extra "V1"; obtain ⟨ne1, ne2, ne3⟩ := ne) <;> k_extra "V2")
        have hstep : (l.take (i + 1)).filter (fun x => !numD tab x) = (l.take i).filter (fun x => !numD tab x) ++ (if !numD tab d then [d] else []) := by rw [List.take_add_one, hd1, Option.toList_some, List.filter_append]; simp [List.filter_cons]
        repeat' (k_extra "zS"; first | k_extra "zP" | k_extra "KINDR0" | ((with_reducible show wpAny _ _ (call (Value.ref 306) _) _ _ _); (show wpAny _ _ (call (Value.ref 306) [_, _]) _ _ _); refine fetch_use (by k_asm) (by k_asm) (by k_asm) (by k_asm) (by k_asm) rfl (by k_extra "ROOM") (by k_extra "UNITS") hSn hvx (by k_extra "zU") hokx ?_; intro rG hG tkG hvG FG NG; (try k_sweep)) | k_extra "zQ")
        · rename (_ = true) => hn
          have hn : numD tab d = true := hn
          refine' cpostT [(_, _)] (ys := ys) (R := fun y => ys) (by assumption) (by assumption) ?e1 o1 o2 ?e5 hta ?e6 ?e7
          case e1 => exact off3_cons (by k_ne) (by k_ne) (by k_ne) trivial
          case e5 => k_extra "zA"
          case e6 => lcg_src
          case e7 => show _ = _; rw [hstep, hn, hJ]; simp
        · rename (_ = false) => hn
          have hn : numD tab d = false := hn
          refine' cpostT [(_, _)] (ys := ys) (R := fun y => ys ++ [y]) (by assumption) (by assumption) ?e1 o1 o2 ?e5 hta ?e6 ?e7
          case e1 => exact off3_cons (by k_ne) (by k_ne) (by k_ne) trivial
          case e5 => k_extra "zA"
          case e6 => lcg_src
          case e7 => show _ = _; rw [hstep, hn, List.length_append, hJ]; simp
      · intro tl ys hta hJ
        repeat' (k_extra "zS"; first | k_extra "zP" | ((with_reducible show wpAny _ _ (compareOp CmpOp.Eq _ _) _ _ _); refine eq_empty (ys := ys) (News.isList (by k_asm) (by k_mem)) (News.isList (by k_asm) (by k_mem)) (by k_extra "UNITS") ?_) | k_extra "zQ")
        rw [List.size_toArray, hvl, List.take_length] at hJ
        exact RetP.intro (by assumption) (by assumption) (hPQ _ _ ⟨congrArg Value.bool (box_all he hJ), by k_extra "zU"⟩)
  · have hi : isPV 3 d = false := by
      cases d <;> first | rfl | exact absurd ⟨_, rfl⟩ hD
    have hres : boxD tab d = false := by
      cases d <;> first | rfl | exact absurd ⟨_, rfl⟩ hD
    dsimp only [F434]
    repeat' (k_extra "zS"; first | k_extra "zP" | ((with_reducible show wpAny _ _ (call (Value.builtin "isinstance") [_, _]) _ _ _); refine isi_list (by k_asm) (by k_asm) (by k_asm) (by k_asm) (by k_asm) (VIn.mono (by k_extra "zU") h') ?_; intro tkI; rw [hi]) | k_extra "zQ")
    exact RetP.intro (by assumption) (by assumption) (hPQ _ _ ⟨by rw [hres], by k_extra "zU"⟩)
  )
  k_extra "GG"
section items
variable {prog : Program} {w : World} {A : Around} {E : Value → Shared → Prop} {s : Shared} {env : Env} {h₀ : Heap} {target : PySem.Expr} {body : List Stmt} {Q : Flow → Shared → Prop}
theorem UnrPostW.mono {L : Addr} {its : List (Addr × Obj)} {s₁ s₂ : Shared} {f : Flow} {R R' : (Str → Option Value) → List (Addr × Obj) → Prop} (h : UnrPostW h₀ L s₁ its R Q f s₂) (hm : ∀ m' n', R m' n' → R' m' n') : UnrPostW h₀ L s₁ its R' Q f s₂ := by
  cases f with
  | ret v => exact h
  | brk => exact h
  | next => obtain ⟨h', tk, m', n', e, a, b, c, d⟩ := h; exact ⟨h', tk, m', n', e, a, b, c, hm _ _ d⟩
  | cont => obtain ⟨h', tk, m', n', e, a, b, c, d⟩ := h; exact ⟨h', tk, m', n', e, a, b, c, hm _ _ d⟩
theorem items_loop {I : Addr} {cl : String} {keep : List (Addr × Obj)} {vs : List Value} {m : Str → Option Value} {news : List (Addr × Obj)} (J : Nat → (Str → Option Value) → List (Addr × Obj) → Prop) (h0 : J 0 m news)
    (step : ∀ i v m₁ n₁, vs[i]? = some v → J i m₁ n₁ → ∀ (it : Obj) h tk, Fr h₀ env.locals h m₁ → News h₀ env.locals h ((I, it) :: n₁) → ∀ J' : (Str → Option Value) → List (Addr × Obj) → Prop, (∀ m' n', SubL keep n' → J (i + 1) m' n' → J' m' n') →
      wpAny (model prog w) A (assign target env v) (fun _ s₂ => wpAny (model prog w) A (execs body env) (UnrPostW h₀ env.locals { s with heap := h, toks := tk } [(I, it)] J' Q) E s₂) E { s with heap := h, toks := tk })
    (fin : ∀ m₁ n₁ h tk, J vs.length m₁ n₁ → Fr h₀ env.locals h m₁ → News h₀ env.locals h n₁ → Q .next { s with heap := h, toks := tk }) : ItemsRest prog w A E h₀ env target body Q s [(I, cl)] keep (vs.map .val) m news := by
  have key : ∀ (r : List Value) (i : Nat) (m₁ : Str → Option Value) (n₁ : List (Addr × Obj)), vs.drop i = r → i ≤ vs.length → J i m₁ n₁ → ItemsRest prog w A E h₀ env target body Q s [(I, cl)] keep (r.map .val) m₁ n₁ := by
    intro r
    induction r with
    | nil =>
      intro i m₁ n₁ hr hi hJ
      have e : i = vs.length := by
        have := congrArg List.length hr
        simp at this
        omega
      subst e
      exact ItemsRest.zero fun h tk F N => fin m₁ n₁ h tk hJ F N
    | cons v r ih =>
      intro i m₁ n₁ hr hi hJ
      have hv : vs[i]? = some v := by
        have := congrArg (fun l : List Value => l[0]?) hr
        simpa using this
      have hlt : i < vs.length := (List.getElem?_eq_some_iff.mp hv).1
      have hr' : vs.drop (i + 1) = r := by
        rw [List.drop_eq_getElem_cons hlt] at hr
        exact (List.cons.inj hr).2
      refine ItemsRest.val fun h tk F => AllObj.cons fun o' _ => AllObj.nil fun N' => ?_
      exact step i v m₁ n₁ hv hJ o' h tk F N' _ fun m' n' hk hJ' => ⟨hk, ih (i + 1) m' n' hr' hlt hJ'⟩
  exact key vs 0 m news rfl (Nat.zero_le _) h0
theorem unrW_spl1 {L I : Addr} {it : Obj} {c : Addr × Obj} {s₁ : Shared} {R : (Str → Option Value) → List (Addr × Obj) → Prop} {h' : Heap} {tk : Nat} {m' : Str → Option Value} {nl pre fr : List (Addr × Obj)} (F : Fr h₀ L h' m') (N : News h₀ L h' nl) (S : SplC [(I, it), c] fr nl pre) (off : ∀ p ∈ c :: (pre ++ fr), p.1 ≠ I) (r : R m' (c :: (pre ++ fr))) : UnrPostW h₀ L s₁ [(I, it)] R Q .next { s₁ with heap := h', toks := tk } :=
  ⟨h', tk, m', c :: (pre ++ fr), rfl, F, (show News h₀ L h' ([(I, it), c] ++ (pre ++ fr)) from news_spl N S), fun p hp q hq => by rw [List.mem_singleton.mp hq]; exact off p hp, r⟩
theorem subL_of {a b : List (Addr × Obj)} (h : ∀ q ∈ a, q ∈ b) : SubL a b := by
  induction a with
  | nil => trivial
  | cons p a ih => exact ⟨h _ List.mem_cons_self, ih fun q hq => h q (List.mem_cons_of_mem _ hq)⟩
end items
theorem splC1 {a : Addr × Obj} {fr : List (Addr × Obj)} : SplC [a] fr (a :: fr) [] := SplC.here
theorem news_spl1 {g h : Heap} {L : Addr} {a : Addr × Obj} {fr l pre : List (Addr × Obj)} (N : News g L h l) (S : SplC [a] fr l pre) : News g L h (a :: (pre ++ fr)) := news_spl N S
def noneD : PV → Bool
  | .none => true
  | _ => false
theorem vin_none {w : World} {n : List (Addr × Obj)} {v : Value} {d : PV} (h : VIn w n v d) : (v == Value.none) = noneD d := by cases h <;> rfl
theorem box_use {w : World} {dp un : Nat} {gd : Option (List Code)} {cn : Str} {cs : Scope} {a : Addr} {ccd : Value} {cl : List (Str × Addr)} {outer : List Env} {A₀ : Around} {base h₀ : Heap} {mean : ExcName → Option Value} {mg mb : Str → Option Value} {L : Addr} {m : Str → Option Value} {s : Shared} {Q E : Value → Shared → Prop} {news n0 : List (Addr × Obj)} {S : Addr} {tab : List (Int × Int × PV)} {tr : List (Str × PV)} {v : Value} {d : PV}
    (B : Below A₀ base outer h₀) (F : Fr h₀ L s.heap m) (X : (K w.params).In h₀) (N : News h₀ L s.heap news) (T' : TopV mean mg mb h₀) (hk : cs.kind = .function) (hd : dp + 40 < recursionLimit) (hu : un + 240 < cLine) (hS : Shelved w n0 S tab tr) (h : VIn w n0 v d) (hs : ∀ q ∈ n0, q ∈ news) (hok : ∀ l, d = .arr l → ∀ x ∈ l, FetchOk tab x) (hlen : ∀ l, d = .arr l → l.length ≤ 1000)
    (ret : ∀ h' tk', Fr h₀ L h' m → News h₀ L h' news → Q (.bool (boxD tab d)) { s with heap := h', toks := tk' }) :
    wpAny (model PG w) (ktrTop dp un gd cn cs L a ccd cl outer) (call (.ref 434) [.ref S, v]) Q E s := by
  refine (box_ok w hS h hs hok hlen).use B F X N T' (fun p hp => hp) hk (by omega) (by omega) ?_
  intro r news' h' tk' F2 N2 z6_
  ((k_extra "V1"; obtain ⟨rfl, g2⟩ := z6_) <;> k_extra "V2")
  exact ret h' tk' F2 (fun q hq => N2 q (g2 q hq))
inductive FSt (w : World) (S H fa : Addr) (idx : Int) (ti : Tok) (news : List (Addr × Obj)) (fs : List (Str × Int × Str)) (m : Str → Option Value) (n : List (Addr × Obj)) : Prop
  | mk : ∀ fv nf tl, m "shelf" = some (.ref S) → m "index" = some (.int idx ti) → m "fields" = some (.ref H) → m "found" = some (.ref fa) → n = (fa, listOf (List.toArray fv) nf) :: (tl ++ news) → FAll w tl fv fs → (∀ q ∈ tl, q.1 ≠ fa) → (∀ q ∈ news, q.1 ≠ fa) → Apart news tl → FSt w S H fa idx ti news fs m n
def resD (tab : List (Int × Int × PV)) (es : List (Str × PV)) (idx : Int) : List (Str × Int × Str) := if isPV 2 (fetchD tab (getD es "Resources")) = true then [] else [fnd "field" idx "no Resources"]
theorem find_add {w : World} {fa a d : Addr} {x y : Str} {i : Int} {t u t' u' t'' u'' : Tok} {c nf : Nat} {news tl : List (Addr × Obj)} {fv : List Value} {fs : List (Str × Int × Str)} (hf : FAll w tl fv fs) (o2 : ∀ q ∈ news, q.1 ≠ fa) (ha : Apart news tl) (h1 : AllLt a news) (h2 : AllLt d news) :
    FindPost w (fs ++ [fnd x i y]) news (.ref fa) ((fa, listOf (List.toArray (fv ++ [.ref a])) nf) :: ([(a, instObj 397 d), (d, dictOf [ent w "word" t (.str x u), ent w "place" t' (.int i u'), ent w "text" t'' (.str y u'')] c)] ++ (tl ++ news))) :=
  ⟨fa, _, _, (fa, _) :: ([_, _] ++ tl), rfl, fun q hq => by simpa using hq, by k_mem, (hf.mono fun q hq => List.mem_cons_of_mem _ (List.mem_append_right _ hq)).append (.cons (fin_intro (by k_mem) (by k_mem)) .nil), Apart.cons o2 (Apart.cons (allLt_ne h1) (Apart.cons (allLt_ne h2) ha))⟩
theorem fst_add {w : World} {S H fa a d : Addr} {idx : Int} {ti : Tok} {m : Str → Option Value} {x y : Str} {i : Int} {t u t' u' t'' u'' : Tok} {c nf : Nat} {news tl : List (Addr × Obj)} {fv : List Value} {fs : List (Str × Int × Str)} (m1 : m "shelf" = some (.ref S)) (m2 : m "index" = some (.int idx ti)) (m3 : m "fields" = some (.ref H)) (m4 : m "found" = some (.ref fa)) (hf : FAll w tl fv fs) (o1 : ∀ q ∈ tl, q.1 ≠ fa) (o2 : ∀ q ∈ news, q.1 ≠ fa) (ha : Apart news tl) (h1 : AllLt a news) (h2 : AllLt d news) (l1 : @LT.lt Nat _ fa a) (l2 : @LT.lt Nat _ fa d) :
    FSt w S H fa idx ti news (fs ++ [fnd x i y]) m ((fa, listOf (List.toArray (fv ++ [.ref a])) nf) :: ([(a, instObj 397 d), (d, dictOf [ent w "word" t (.str x u), ent w "place" t' (.int i u'), ent w "text" t'' (.str y u'')] c)] ++ (tl ++ news))) :=
  ⟨_, _, [_, _] ++ tl, m1, m2, m3, m4, rfl, (hf.mono fun q hq => List.mem_append_right _ hq).append (.cons (fin_intro (by k_mem) (by k_mem)) .nil), List.forall_mem_append.mpr ⟨List.forall_mem_cons.mpr ⟨Nat.ne_of_gt l1, List.forall_mem_cons.mpr ⟨Nat.ne_of_gt l2, List.forall_mem_nil _⟩⟩, o1⟩, o2, Apart.cons (allLt_ne h1) (Apart.cons (allLt_ne h2) ha)⟩
section ff
variable {w : World} {S H fa : Addr} {idx : Int} {ti : Tok} {tab : List (Int × Int × PV)} {tr es : List (Str × PV)} {news n : List (Addr × Obj)} {fs : List (Str × Int × Str)} {PQ : Value → List (Addr × Obj) → Prop}
  {dp un : Nat} {gd : Option (List Code)} {outer : List Env} {A₀ : Around} {base g h : Heap} {mean : ExcName → Option Value} {mg mb : Str → Option Value} {L : Addr} {s : Shared} {m : Str → Option Value} {tk : Nat}
theorem ff5 (hS : Shelved w news S tab tr) (hH : VIn w news (.ref H) (.dict es)) (hok : ∀ k, FetchOk tab (getD es k)) (hst : FSt w S H fa idx ti news fs m n) (hl : fs.length ≤ 10)
    (hPQ : ∀ r n', FindPost w (fs ++ resD tab es idx) news r n' → PQ r n')
    (B : Below A₀ base outer g) (F : Fr g L h m) (X : (K w.params).In g) (N : News g L h n) (T' : TopV mean mg mb g) (hd : dp + 79 < recursionLimit) (hu : un + 477 < cLine) :
    wpAny (model PG w) (ktrTop dp un gd "field_findings" F441.1.2.2 L 441 (.ref 440) [] outer) (execs (F441.1.2.1.drop 5) (envOf "field_findings" F441.1.2.2 L 441 (.ref 440))) (RetP g L s PQ) (fun _ _ => False) { s with heap := h, toks := tk } := by
  (k_with "GO" =>
  ((k_extra "V1"; obtain ⟨fv, nf, tl, m1, m2, m3, m4, rfl, hf, o1, o2, ha⟩ := hst) <;> k_extra "V2")
  have hfl := hf.length
  have hSn := hS
  ((k_extra "V1"; obtain ⟨T, TR, oT, kvs, ⟨sd, tS, tS', nS, hS1, hS2⟩, h2, lo, hT, htab, h6, h7⟩ := hS) <;> k_extra "V2")
  have hok1 := hok "Resources"
  dsimp only [F441, List.drop]
  cases hi : isPV 2 (fetchD tab (getD es "Resources")) with
  | true =>
    repeat' (k_extra "zS"; first | k_extra "zP" | k_extra "zN" | ((with_reducible show wpAny _ _ (call (Value.ref 313) _) _ _ _); (show wpAny _ _ (call (Value.ref 313) [_, _, _]) _ _ _); refine get_use (k := Str.ofString "Resources") (by k_asm) (by k_asm) (by k_asm) (by k_asm) (by k_asm) rfl (by k_extra "ROOM") (by k_extra "UNITS") hSn hH (by k_extra "zU") hok1 ?_; intro rG hG tkG hvG FG NG; (try k_sweep)) | ((with_reducible show wpAny _ _ (call (Value.builtin "isinstance") [_, _]) _ _ _); refine isi_dict (by k_asm) (by k_asm) (by k_asm) (by k_asm) (by k_asm) (VIn.mono (by k_extra "zU") hvG) ?_; intro tkI; rw [hi]) | k_extra "zQ")
    refine RetP.intro (by assumption) (by assumption) (hPQ _ _ ⟨fa, fv, nf, (fa, _) :: tl, rfl, fun q hq => hq, by k_mem, ?f, ?a⟩)
    case f => rw [show resD tab es idx = [] from if_pos hi, List.append_nil]; exact hf.mono fun q hq => List.mem_cons_of_mem _ hq
    case a => exact Apart.cons (by k_all) ha
  | false =>
    repeat' (k_extra "zS"; first | k_extra "zP" | k_extra "zN" | ((with_reducible show wpAny _ _ (call (Value.ref 313) _) _ _ _); (show wpAny _ _ (call (Value.ref 313) [_, _, _]) _ _ _); refine get_use (k := Str.ofString "Resources") (by k_asm) (by k_asm) (by k_asm) (by k_asm) (by k_asm) rfl (by k_extra "ROOM") (by k_extra "UNITS") hSn hH (by k_extra "zU") hok1 ?_; intro rG hG tkG hvG FG NG; (try k_sweep)) | ((with_reducible show wpAny _ _ (call (Value.builtin "isinstance") [_, _]) _ _ _); refine isi_dict (by k_asm) (by k_asm) (by k_asm) (by k_asm) (by k_asm) (VIn.mono (by k_extra "zU") hvG) ?_; intro tkI; rw [hi]) | k_extra "zQ")
    rename (News _ _ _ _) => N9; simp only [List.push_toArray] at N9
    have N8 := news_spl1 (a := (fa, _)) (fr := tl ++ news) N9 (by k_extra "SPL1")
    exact RetP.intro (by assumption) N8 (hPQ _ _ (by rw [show resD tab es idx = [fnd "field" idx "no Resources"] from if_neg (by rw [hi]; decide)]; exact find_add hf o2 ha (by assumption) (by assumption)))
  )
  k_extra "GG"
def turnD (tab : List (Int × Int × PV)) (es : List (Str × PV)) (idx : Int) : List (Str × Int × Str) := match fetchD tab (getD es "Rotate") with
  | .none => []
  | .int i => if Int.fmod i 90 = 0 then [] else [fnd "field" idx "Rotate is no multiple of 90"]
  | _ => [fnd "field" idx "Rotate is no multiple of 90"]
theorem ff3 (hS : Shelved w news S tab tr) (hH : VIn w news (.ref H) (.dict es)) (hok : ∀ k, FetchOk tab (getD es k)) (hst : FSt w S H fa idx ti news fs m n) (hl : fs.length ≤ 9)
    (hPQ : ∀ r n', FindPost w (fs ++ (turnD tab es idx ++ resD tab es idx)) news r n' → PQ r n')
    (B : Below A₀ base outer g) (F : Fr g L h m) (X : (K w.params).In g) (N : News g L h n) (T' : TopV mean mg mb g) (hd : dp + 79 < recursionLimit) (hu : un + 477 < cLine) :
    wpAny (model PG w) (ktrTop dp un gd "field_findings" F441.1.2.2 L 441 (.ref 440) [] outer) (execs (F441.1.2.1.drop 3) (envOf "field_findings" F441.1.2.2 L 441 (.ref 440))) (RetP g L s PQ) (fun _ _ => False) { s with heap := h, toks := tk } := by
  (k_with "GO" =>
  ((k_extra "V1"; obtain ⟨fv, nf, tl, m1, m2, m3, m4, rfl, hf, o1, o2, ha⟩ := hst) <;> k_extra "V2")
  have hfl := hf.length
  have hSn := hS
  ((k_extra "V1"; obtain ⟨T, TR, oT, kvs, ⟨sd, tS, tS', nS, hS1, hS2⟩, h2, lo, hT, htab, h6, h7⟩ := hS) <;> k_extra "V2")
  have hok1 := hok "Rotate"
  dsimp only [F441, List.drop]
  by_cases h0 : fetchD tab (getD es "Rotate") = .none
  · have he : turnD tab es idx = [] := by simp only [turnD, h0]
    rw [he, List.nil_append] at hPQ
    repeat' (k_extra "zS"; (fail_if_success (with_reducible show wpAny _ _ (execs [_, _] _) _ _ _)); first | k_extra "zP" | k_extra "zN" | ((with_reducible show wpAny _ _ (call (Value.ref 313) _) _ _ _); (show wpAny _ _ (call (Value.ref 313) [_, _, _]) _ _ _); refine get_use (k := Str.ofString "Rotate") (by k_asm) (by k_asm) (by k_asm) (by k_asm) (by k_asm) rfl (by k_extra "ROOM") (by k_extra "UNITS") hSn hH (by k_extra "zU") hok1 ?_; intro rG hG tkG hvG FG NG; (try k_sweep)) | ((with_reducible first | show wpAny _ _ (compareOp CmpOp.IsNot _ Value.none) _ _ _ | show wpAny _ _ (compareOp CmpOp.Is _ Value.none) _ _ _); (first | refine PySem.isNot_none ?_ | refine PySem.is_none ?_); rw [vin_none hvG, h0]) | k_extra "zQ")
    rename (Fr _ _ _ _) => F9; rename (News _ _ _ _) => N9
    exact ff5 hSn hH hok ⟨fv, nf, tl, by k_extra "NX", by k_extra "NX", by k_extra "NX", by k_extra "NX", rfl, hf, o1, o2, ha⟩ (by omega) hPQ B F9 X N9 T' hd hu
  have hn0 : noneD (fetchD tab (getD es "Rotate")) = false := by
    cases hf : fetchD tab (getD es "Rotate") <;> first | rfl | exact absurd hf h0
  by_cases hN : ∃ i, fetchD tab (getD es "Rotate") = .int i
  · ((k_extra "V1"; obtain ⟨i, hN⟩ := hN) <;> k_extra "V2")
    repeat' (k_extra "zS"; (fail_if_success (with_reducible show wpAny _ _ (execs [_, _] _) _ _ _)); first | k_extra "zP" | k_extra "zN" | ((with_reducible show wpAny _ _ (call (Value.ref 313) _) _ _ _); (show wpAny _ _ (call (Value.ref 313) [_, _, _]) _ _ _); refine get_use (k := Str.ofString "Rotate") (by k_asm) (by k_asm) (by k_asm) (by k_asm) (by k_asm) rfl (by k_extra "ROOM") (by k_extra "UNITS") hSn hH (by k_extra "zU") hok1 ?_; intro rG hG tkG hvG FG NG; rw [hN] at hvG; have hvG2 := hvG; cases hvG; (try k_sweep)) | ((with_reducible first | show wpAny _ _ (compareOp CmpOp.IsNot _ Value.none) _ _ _ | show wpAny _ _ (compareOp CmpOp.Is _ Value.none) _ _ _); (first | refine PySem.isNot_none ?_ | refine PySem.is_none ?_); rw [vin_none hvG, hN]) | k_extra "KINDR" | ((with_reducible show ite ((Str.ofString "int" != Str.ofString "int") = true) _ _); rw [if_neg (by decide +kernel)]) | k_extra "zQ")
    · rename (_ ≠ _) => hc
      rename (Fr _ _ _ _) => F9; rename (News _ _ _ _) => N9; simp only [List.push_toArray] at N9
      have N8 := news_spl1 (a := (fa, _)) (fr := tl ++ news) N9 (by k_extra "SPL1")
      have he : turnD tab es idx = [fnd "field" idx "Rotate is no multiple of 90"] := by simp only [turnD, hN]; exact if_neg hc
      rw [he, ← List.append_assoc] at hPQ
      exact ff5 hSn hH hok (fst_add (by k_extra "NX") (by k_extra "NX") (by k_extra "NX") (by k_extra "NX") hf o1 o2 ha (by assumption) (by assumption) (by assumption) (by assumption)) (by simp; omega) hPQ B F9 X N8 T' hd hu
    · rename (_ = (0 : Int)) => hc
      rename (Fr _ _ _ _) => F9; rename (News _ _ _ _) => N9
      have he : turnD tab es idx = [] := by simp only [turnD, hN]; exact if_pos hc
      rw [he, List.nil_append] at hPQ
      exact ff5 hSn hH hok ⟨fv, nf, tl, by k_extra "NX", by k_extra "NX", by k_extra "NX", by k_extra "NX", rfl, hf, o1, o2, ha⟩ (by omega) hPQ B F9 X N9 T' hd hu
  · have k1 : (kindD (fetchD tab (getD es "Rotate")) != Str.ofString "int") = true := by
      cases hf : fetchD tab (getD es "Rotate") <;> first | (simp only [kindD]; decide +kernel) | exact absurd ⟨_, hf⟩ hN
    repeat' (k_extra "zS"; (fail_if_success (with_reducible show wpAny _ _ (execs [_, _] _) _ _ _)); first | k_extra "zP" | k_extra "zN" | ((with_reducible show wpAny _ _ (call (Value.ref 313) _) _ _ _); (show wpAny _ _ (call (Value.ref 313) [_, _, _]) _ _ _); refine get_use (k := Str.ofString "Rotate") (by k_asm) (by k_asm) (by k_asm) (by k_asm) (by k_asm) rfl (by k_extra "ROOM") (by k_extra "UNITS") hSn hH (by k_extra "zU") hok1 ?_; intro rG hG tkG hvG FG NG; (try k_sweep)) | ((with_reducible first | show wpAny _ _ (compareOp CmpOp.IsNot _ Value.none) _ _ _ | show wpAny _ _ (compareOp CmpOp.Is _ Value.none) _ _ _); (first | refine PySem.isNot_none ?_ | refine PySem.is_none ?_); rw [vin_none hvG, hn0]) | k_extra "KINDR0" | ((with_reducible show ite ((kindD _ != _) = true) _ _); rw [if_pos k1]) | k_extra "zQ")
    rename (Fr _ _ _ _) => F9; rename (News _ _ _ _) => N9; simp only [List.push_toArray] at N9
    have N8 := news_spl1 (a := (fa, _)) (fr := tl ++ news) N9 (by k_extra "SPL1")
    have he : turnD tab es idx = [fnd "field" idx "Rotate is no multiple of 90"] := by
      simp only [turnD]; cases hf2 : fetchD tab (getD es "Rotate") <;> first | rfl | exact absurd hf2 h0 | exact absurd ⟨_, hf2⟩ hN
    rw [he, ← List.append_assoc] at hPQ
    exact ff5 hSn hH hok (fst_add (by k_extra "NX") (by k_extra "NX") (by k_extra "NX") (by k_extra "NX") hf o1 o2 ha (by assumption) (by assumption) (by assumption) (by assumption)) (by simp; omega) hPQ B F9 X N8 T' hd hu
  )
  k_extra "GG"
def boxRow (tab : List (Int × Int × PV)) (es : List (Str × PV)) (idx : Int) (k : Str) : List (Str × Int × Str) := match fetchD tab (getD es k) with
  | .none => []
  | d => if boxD tab d = true then [] else [fnd "field" idx (k ++ Str.ofString " is no list of four numbers")]
theorem boxRow_len (tab : List (Int × Int × PV)) (es : List (Str × PV)) (idx : Int) (k : Str) : (boxRow tab es idx k).length ≤ 1 := by
  unfold boxRow
  split
  · simp
  · split
    · simp
    · simp
def keysB : List Str := [Str.ofString "MediaBox", Str.ofString "CropBox"]
def BoxOk (tab : List (Int × Int × PV)) (es : List (Str × PV)) : Prop := ∀ k l, fetchD tab (getD es k) = .arr l → l.length ≤ 1000 ∧ ∀ x ∈ l, FetchOk tab x
theorem ff2 (hS : Shelved w news S tab tr) (hH : VIn w news (.ref H) (.dict es)) (hok : ∀ k, FetchOk tab (getD es k)) (hbo : BoxOk tab es) (hst : FSt w S H fa idx ti news fs m n) (hl : fs.length ≤ 1)
    (hPQ : ∀ r n', FindPost w (fs ++ keysB.flatMap (boxRow tab es idx) ++ (turnD tab es idx ++ resD tab es idx)) news r n' → PQ r n')
    (B : Below A₀ base outer g) (F : Fr g L h m) (X : (K w.params).In g) (N : News g L h n) (T' : TopV mean mg mb g) (hd : dp + 79 < recursionLimit) (hu : un + 477 < cLine) :
    wpAny (model PG w) (ktrTop dp un gd "field_findings" F441.1.2.2 L 441 (.ref 440) [] outer) (execs (F441.1.2.1.drop 2) (envOf "field_findings" F441.1.2.2 L 441 (.ref 440))) (RetP g L s PQ) (fun _ _ => False) { s with heap := h, toks := tk } := by
  (k_with "GO" =>
  have hSn := hS
  ((k_extra "V1"; obtain ⟨T, TR, oT, kvs, ⟨sd, tS, tS', nS, hS1, hS2⟩, h2, lo, hT, htab, h6, h7⟩ := hS) <;> k_extra "V2")
  dsimp only [F441, List.drop]
  repeat' (k_extra "zS"; (fail_if_success (with_reducible show wpAny _ _ (execs [_, _, _] _) _ _ _)); (fail_if_success (with_reducible show ItemsRest _ _ _ _ _ _ _ _ _ _ _ _ _ _ _)); first | k_extra "zP" | k_extra "FORT" | k_extra "zN" | k_extra "zQ")
  rename_i I; rename AllLt _ _ => lI
  refine items_loop (vs := [Value.str (Str.ofString "MediaBox") _, Value.str (Str.ofString "CropBox") _]) (fun i m' n' => FSt w S H fa idx ti news (fs ++ (keysB.take i).flatMap (boxRow tab es idx)) m' n' ∧ ∀ q ∈ n', q.1 ≠ I) ⟨by simpa using hst, allLt_ne lI⟩ ?_ ?_
  · intro i v m₁ n₁ hv z5_ it h1 tk1 F1 N1 J' hJ'
    ((k_extra "V1"; obtain ⟨⟨fv, nf, tl, m1, m2, m3, m4, rfl, hf, o1, o2, ha⟩, oI⟩ := z5_) <;> k_extra "V2")
    obtain ⟨k, t, hk, rfl⟩ : ∃ k t, keysB[i]? = some k ∧ v = .str k t := by
      ((k_extra "V1"; rcases i with _ | _ | i) <;> k_extra "V2")
      · exact ⟨_, _, rfl, (Option.some.inj hv).symm⟩
      · exact ⟨_, _, rfl, (Option.some.inj hv).symm⟩
      · simp at hv
    have hk8 : k.length ≤ 8 := by
      ((k_extra "V1"; rcases i with _ | _ | i) <;> k_extra "V2")
      · rw [← Option.some.inj hk]; decide +kernel
      · rw [← Option.some.inj hk]; decide +kernel
      · simp at hv
    have hi2 : i < 2 := (List.getElem?_eq_some_iff.mp hv).1
    have hfl := hf.length
    have hlr : ((keysB.take i).flatMap (boxRow tab es idx)).length ≤ 2 := by
      have := boxRow_len tab es idx
      ((k_extra "V1"; rcases i with _ | _ | i) <;> k_extra "V2")
      · simp
      · have := this (Str.ofString "MediaBox"); simp [keysB]; omega
      · omega
    rw [List.length_append] at hfl
    have hstep : fs ++ (keysB.take (i + 1)).flatMap (boxRow tab es idx) = (fs ++ (keysB.take i).flatMap (boxRow tab es idx)) ++ boxRow tab es idx k := by rw [List.take_add_one, hk, Option.toList_some, List.flatMap_append, List.append_assoc]; simp
    have oI1 : fa ≠ I := oI _ List.mem_cons_self
    have oI2 : ∀ q ∈ tl, q.1 ≠ I := fun q hq => oI q (by k_mem)
    have oI3 : ∀ q ∈ news, q.1 ≠ I := fun q hq => oI q (by k_mem)
    by_cases h0 : fetchD tab (getD es k) = .none
    · repeat' (k_extra "zS"; (fail_if_success (with_reducible show UnrPostW _ _ _ _ _ _ _ _)); (fail_if_success (with_reducible show UnrEndW _ _ _ _ _ _)); first | k_extra "zP" | k_extra "zN" | ((with_reducible show wpAny _ _ (call (Value.ref 313) _) _ _ _); (show wpAny _ _ (call (Value.ref 313) [_, _, _]) _ _ _); refine get_use (k := k) (by k_asm) (by k_asm) (by k_asm) (by k_asm) (by k_asm) rfl (by k_extra "ROOM") (by k_extra "UNITS") hSn hH (by k_extra "zU") (hok k) ?_; intro rG hG tkG hvG FG NG; (try k_sweep)) | ((with_reducible first | show wpAny _ _ (compareOp CmpOp.IsNot _ Value.none) _ _ _ | show wpAny _ _ (compareOp CmpOp.Is _ Value.none) _ _ _); (first | refine PySem.isNot_none ?_ | refine PySem.is_none ?_); rw [vin_none hvG, h0]) | k_extra "zQ")
      have he : boxRow tab es idx k = [] := by simp only [boxRow, h0]
      rename (Fr _ _ _ _) => F9; rename (News _ _ _ _) => N9
      refine unrW_spl1 (c := (fa, _)) (fr := tl ++ news) F9 N9 (by repeat (first | exact splC2 | apply SplC.cons | apply SplC.app)) ?off (hJ' _ _ trivial ⟨?st, ?off2⟩)
      case off => k_all
      case off2 => k_all
      case st => rw [hstep, he, List.append_nil]; exact ⟨fv, _, tl, by k_extra "NX", by k_extra "NX", by k_extra "NX", by k_extra "NX", rfl, hf, o1, o2, ha⟩
    have hn0 : noneD (fetchD tab (getD es k)) = false := by
      cases hf : fetchD tab (getD es k) <;> first | rfl | exact absurd hf h0
    cases hb : boxD tab (fetchD tab (getD es k)) with
    | true =>
      repeat' (k_extra "zS"; (fail_if_success (with_reducible show UnrPostW _ _ _ _ _ _ _ _)); (fail_if_success (with_reducible show UnrEndW _ _ _ _ _ _)); first | k_extra "zP" | k_extra "zN" | ((with_reducible show wpAny _ _ (call (Value.ref 313) _) _ _ _); (show wpAny _ _ (call (Value.ref 313) [_, _, _]) _ _ _); refine get_use (k := k) (by k_asm) (by k_asm) (by k_asm) (by k_asm) (by k_asm) rfl (by k_extra "ROOM") (by k_extra "UNITS") hSn hH (by k_extra "zU") (hok k) ?_; intro rG hG tkG hvG FG NG; (try k_sweep)) | ((with_reducible first | show wpAny _ _ (compareOp CmpOp.IsNot _ Value.none) _ _ _ | show wpAny _ _ (compareOp CmpOp.Is _ Value.none) _ _ _); (first | refine PySem.isNot_none ?_ | refine PySem.is_none ?_); rw [vin_none hvG, hn0]) | ((with_reducible show wpAny _ _ (call (Value.ref 434) _) _ _ _); (show wpAny _ _ (call (Value.ref 434) [_, _]) _ _ _); refine box_use (by k_asm) (by k_asm) (by k_asm) (by k_asm) (by k_asm) rfl (by k_extra "ROOM") (by k_extra "UNITS") hSn hvG (by k_extra "zU") (fun l e => (hbo k l e).2) (fun l e => (hbo k l e).1) ?_; intro hB tkB FB NB; rw [hb]; (try k_sweep)) | ((with_reducible show wpAny _ _ (binaryOp Operator.Add (Value.str _ _) (Value.str _ _)) _ _ _); refine PyProof.Rows.add_str ?_ (Nat.le_trans (Nat.add_le_add_right hk8 _) (by decide +kernel)); intro tA tkA) | k_extra "zQ")
      have he : boxRow tab es idx k = [] := by
        unfold boxRow; split
        · rfl
        · exact if_pos hb
      rename (Fr _ _ _ _) => F9; rename (News _ _ _ _) => N9
      refine unrW_spl1 (c := (fa, _)) (fr := tl ++ news) F9 N9 (by repeat (first | exact splC2 | apply SplC.cons | apply SplC.app)) ?off (hJ' _ _ trivial ⟨?st, ?off2⟩)
      case off => k_all
      case off2 => k_all
      case st => rw [hstep, he, List.append_nil]; exact ⟨fv, _, tl, by k_extra "NX", by k_extra "NX", by k_extra "NX", by k_extra "NX", rfl, hf, o1, o2, ha⟩
    | false =>
      repeat' (k_extra "zS"; (fail_if_success (with_reducible show UnrPostW _ _ _ _ _ _ _ _)); (fail_if_success (with_reducible show UnrEndW _ _ _ _ _ _)); first | k_extra "zP" | k_extra "zN" | ((with_reducible show wpAny _ _ (call (Value.ref 313) _) _ _ _); (show wpAny _ _ (call (Value.ref 313) [_, _, _]) _ _ _); refine get_use (k := k) (by k_asm) (by k_asm) (by k_asm) (by k_asm) (by k_asm) rfl (by k_extra "ROOM") (by k_extra "UNITS") hSn hH (by k_extra "zU") (hok k) ?_; intro rG hG tkG hvG FG NG; (try k_sweep)) | ((with_reducible first | show wpAny _ _ (compareOp CmpOp.IsNot _ Value.none) _ _ _ | show wpAny _ _ (compareOp CmpOp.Is _ Value.none) _ _ _); (first | refine PySem.isNot_none ?_ | refine PySem.is_none ?_); rw [vin_none hvG, hn0]) | ((with_reducible show wpAny _ _ (call (Value.ref 434) _) _ _ _); (show wpAny _ _ (call (Value.ref 434) [_, _]) _ _ _); refine box_use (by k_asm) (by k_asm) (by k_asm) (by k_asm) (by k_asm) rfl (by k_extra "ROOM") (by k_extra "UNITS") hSn hvG (by k_extra "zU") (fun l e => (hbo k l e).2) (fun l e => (hbo k l e).1) ?_; intro hB tkB FB NB; rw [hb]; (try k_sweep)) | ((with_reducible show wpAny _ _ (binaryOp Operator.Add (Value.str _ _) (Value.str _ _)) _ _ _); refine PyProof.Rows.add_str ?_ (Nat.le_trans (Nat.add_le_add_right hk8 _) (by decide +kernel)); intro tA tkA) | k_extra "zQ")
      have he : boxRow tab es idx k = [fnd "field" idx (k ++ Str.ofString " is no list of four numbers")] := by
        unfold boxRow; split
        · exact absurd (by assumption) h0
        · exact if_neg (by rw [hb]; decide)
      rename (News _ _ _ _) => N8; simp only [List.push_toArray] at N8
      rename (Fr _ _ _ _) => F9; rename (News _ _ _ _) => N9
      refine unrW_spl1 (c := (fa, _)) (fr := tl ++ news) F9 N9 (by repeat (first | exact splC2 | apply SplC.cons | apply SplC.app)) ?off (hJ' _ _ trivial ⟨?st, ?off2⟩)
      case off => k_all
      case off2 => k_all
      case st => rw [hstep, he]; exact fst_add (by k_extra "NX") (by k_extra "NX") (by k_extra "NX") (by k_extra "NX") hf o1 o2 ha (by assumption) (by assumption) (by assumption) (by assumption)
  · intro m₁ n₁ h1 tk1 z4_ F1 N1
    ((k_extra "V1"; obtain ⟨hst, -⟩ := z4_) <;> k_extra "V2")
    have hlr : (keysB.flatMap (boxRow tab es idx)).length ≤ 2 := by
      have this := boxRow_len tab es idx
      have h1 := this (Str.ofString "MediaBox"); have h2 := this (Str.ofString "CropBox"); simp [keysB]; omega
    exact ff3 hSn hH hok hst (by rw [List.length_append]; exact Nat.le_trans (Nat.add_le_add hl hlr) (by decide)) hPQ B F1 X N1 T' hd hu
  )
  k_extra "GG"
end ff
def mediaD (tab : List (Int × Int × PV)) (es : List (Str × PV)) (idx : Int) : List (Str × Int × Str) := if noneD (fetchD tab (getD es "MediaBox")) = true then [fnd "field" idx "no MediaBox"] else []
def fieldsD (tab : List (Int × Int × PV)) (es : List (Str × PV)) (idx : Int) : List (Str × Int × Str) := mediaD tab es idx ++ keysB.flatMap (boxRow tab es idx) ++ (turnD tab es idx ++ resD tab es idx)
theorem fields_ok (w : World) {S H : Addr} {idx : Int} {ti : Tok} {tab : List (Int × Int × PV)} {tr es : List (Str × PV)} {n0 news : List (Addr × Obj)} (hS : Shelved w n0 S tab tr) (hH : VIn w n0 (.ref H) (.dict es)) (hs : ∀ q ∈ n0, q ∈ news) (hok : ∀ k, FetchOk tab (getD es k)) (hbo : BoxOk tab es) : CallC w 441 80 480 [.ref S, .int idx ti, .ref H] news (FindPost w (fieldsD tab es idx) news) := by
  (k_with "GO" =>
  refine CallC.gen fun PQ hPQ => ?_
  refine enterC (dc := 79) (uc := 477) (binds := [("shelf", .ref S), ("index", .int idx ti), ("fields", .ref H)]) (look_441 _) (code_441 _) (fun s _ => BindsTo.of_eq rfl) (locs rfl) rfl rfl rfl (by decide) ?_
  intro dp un gd outer A₀ base g mean mg mb L s B F X N' T' hd hu
  have hSn := hS.mono hs
  have hHn := hH.mono hs
  clear hS hH hs
  have hH := hHn
  have hS := hSn
  ((k_extra "V1"; obtain ⟨T, TR, oT, kvs, ⟨sd, tS, tS', nS, hS1, hS2⟩, h2, lo, hT, htab, h6, h7⟩ := hS) <;> k_extra "V2")
  have hok1 := hok "MediaBox"
  dsimp only [F441]
  cases h0 : noneD (fetchD tab (getD es "MediaBox")) with
  | true =>
    have he : mediaD tab es idx = [fnd "field" idx "no MediaBox"] := by simp only [mediaD, h0]; rfl
    rw [fieldsD, he] at hPQ
    repeat' (k_extra "zS"; (fail_if_success (with_reducible show wpAny _ _ (execs [_, _, _, _, _] _) _ _ _)); first | k_extra "zP" | k_extra "zN" | ((with_reducible show wpAny _ _ (call (Value.ref 313) _) _ _ _); (show wpAny _ _ (call (Value.ref 313) [_, _, _]) _ _ _); refine get_use (k := Str.ofString "MediaBox") (by k_asm) (by k_asm) (by k_asm) (by k_asm) (by k_asm) rfl (by k_extra "ROOM") (by k_extra "UNITS") hSn hH (by k_extra "zU") hok1 ?_; intro rG hG tkG hvG FG NG; (try k_sweep)) | ((with_reducible first | show wpAny _ _ (compareOp CmpOp.IsNot _ Value.none) _ _ _ | show wpAny _ _ (compareOp CmpOp.Is _ Value.none) _ _ _); (first | refine PySem.isNot_none ?_ | refine PySem.is_none ?_); rw [vin_none hvG, h0]) | k_extra "zQ")
    rename (Fr _ _ _ _) => F9; rename (News _ _ _ _) => N9; simp only [List.push_toArray] at N9
    have N8 := news_spl1 (fr := news) N9 (by k_extra "SPL1")
    exact ff2 hSn hH hok hbo (fst_add (fv := []) (fs := []) (tl := []) (by k_extra "NX") (by k_extra "NX") (by k_extra "NX") (by k_extra "NX") .nil (by simp) (by k_all) Apart.nil (by assumption) (by assumption) (by assumption) (by assumption)) (by simp) hPQ B F9 X N8 T' hd hu
  | false =>
    have he : mediaD tab es idx = [] := by simp only [mediaD, h0]; rfl
    rw [fieldsD, he] at hPQ
    repeat' (k_extra "zS"; (fail_if_success (with_reducible show wpAny _ _ (execs [_, _, _, _, _] _) _ _ _)); first | k_extra "zP" | k_extra "zN" | ((with_reducible show wpAny _ _ (call (Value.ref 313) _) _ _ _); (show wpAny _ _ (call (Value.ref 313) [_, _, _]) _ _ _); refine get_use (k := Str.ofString "MediaBox") (by k_asm) (by k_asm) (by k_asm) (by k_asm) (by k_asm) rfl (by k_extra "ROOM") (by k_extra "UNITS") hSn hH (by k_extra "zU") hok1 ?_; intro rG hG tkG hvG FG NG; (try k_sweep)) | ((with_reducible first | show wpAny _ _ (compareOp CmpOp.IsNot _ Value.none) _ _ _ | show wpAny _ _ (compareOp CmpOp.Is _ Value.none) _ _ _); (first | refine PySem.isNot_none ?_ | refine PySem.is_none ?_); rw [vin_none hvG, h0]) | k_extra "zQ")
    rename (Fr _ _ _ _) => F9; rename (News _ _ _ _) => N9
    exact ff2 hSn hH hok hbo ⟨[], 0, [], by k_extra "NX", by k_extra "NX", by k_extra "NX", by k_extra "NX", rfl, .nil, by simp, by k_all, Apart.nil⟩ (by simp) hPQ B F9 X N9 T' hd hu
  )
  k_extra "GG"
def DatDep : Nat → Dat → Prop
  | _, .none => True
  | _, .bool _ => True
  | _, .int _ => True
  | _, .str _ => True
  | _, .bytes _ => True
  | n + 1, .tuple ds => ∀ d ∈ ds, DatDep n d
  | n + 1, .list ds => ∀ d ∈ ds, DatDep n d
  | 0, .tuple _ => False
  | 0, .list _ => False
theorem DatDep.mono : ∀ {n m : Nat} {d : Dat}, DatDep n d → n ≤ m → DatDep m d
  | _, m, .none, _, _ => by cases m <;> trivial
  | _, m, .bool _, _, _ => by cases m <;> trivial
  | _, m, .int _, _, _ => by cases m <;> trivial
  | _, m, .str _, _, _ => by cases m <;> trivial
  | _, m, .bytes _, _, _ => by cases m <;> trivial
  | 0, _, .tuple _, h, _ => h.elim
  | 0, _, .list _, h, _ => h.elim
  | n + 1, 0, .tuple _, _, h => absurd h (Nat.not_succ_le_zero _)
  | n + 1, 0, .list _, _, h => absurd h (Nat.not_succ_le_zero _)
  | n + 1, m + 1, .tuple ds, h, hm => fun d hd => (h d hd).mono (Nat.le_of_succ_le_succ hm)
  | n + 1, m + 1, .list ds, h, hm => fun d hd => (h d hd).mono (Nat.le_of_succ_le_succ hm)
theorem datAll_idx {news : List (Addr × Obj)} {vs : List Value} : ∀ {ds : List Dat}, DatAll news vs ds → ∀ {i : Nat} (h : i < vs.length), ∃ d ∈ ds, ds[i]? = some d ∧ DatIn news vs[i] d := by
  induction vs with
  | nil => intro ds _ i h; exact absurd h (Nat.not_lt_zero _)
  | cons v vs ih =>
    intro ds hd i h
    k_extra "V0"
    cases hd with
    | cons a r =>
      k_extra "V2"
      ((k_extra "V1"; rcases i with _ | i) <;> k_extra "V2")
      · exact ⟨_, List.mem_cons_self, rfl, a⟩
      · ((k_extra "V1"; obtain ⟨d, hd, e, hi⟩ := ih r (i := i) (Nat.lt_of_succ_lt_succ h)) <;> k_extra "V2")
        exact ⟨d, List.mem_cons_of_mem _ hd, e, hi⟩
section
variable {h₀ : Heap} {L : Addr} {news : List (Addr × Obj)} {s : Shared}
theorem all_true (n m : Nat) (h : n = m) : ((List.range (min n m)).all (fun _ => true) && n == m) = true := by simp [h]
theorem dat_eqAtom {A : Around} {d : Dat} {v v' : Value} (hd : DatDep 0 d) (h : DatIn news v d) (h' : DatIn news v' d) : SeqAt.EqAt A s v v' true := by
    k_extra "V0"
    cases h with
    | none => k_extra "V2"; cases h'; exact SeqAt.EqAt.same _
    | bool b => k_extra "V2"; cases h'; exact SeqAt.EqAt.same _
    | int i t => k_extra "V2"; cases h' with | int _ u => have := SeqAt.EqAt.int_int (A := A) (s := s) i t i u; rwa [beq_self_eq_true] at this
    | str x t => k_extra "V2"; cases h' with | str _ u => have := SeqAt.EqAt.str_str (A := A) (s := s) x t x u; rwa [beq_self_eq_true] at this
    | bytes b t => k_extra "V2"; cases h' with | bytes _ u => exact fun prog w E Q hq => eqBool_bytes (by simpa using hq)
    | tuple hm r => k_extra "V2"; exact hd.elim
    | list hm r => k_extra "V2"; exact hd.elim
theorem dat_eqAt (N : News h₀ L s.heap news) : ∀ (k : Nat) {A : Around} {d : Dat} {v v' : Value}, DatDep k d → DatIn news v d → DatIn news v' d → A.units + k < cLine → SeqAt.EqAt A s v v' true := by
  intro k
  induction k with
  | zero =>
    intro A d v v' hd h h' hu
    exact dat_eqAtom hd h h'
  | succ k ih =>
    intro A d v v' hd h h' hu
    have h0 := h
    k_extra "V0"
    cases h with
    | none => k_extra "V2"; exact dat_eqAtom (by trivial) h0 h'
    | bool b => k_extra "V2"; exact dat_eqAtom (by trivial) h0 h'
    | int i t => k_extra "V2"; exact dat_eqAtom (by trivial) h0 h'
    | str x t => k_extra "V2"; exact dat_eqAtom (by trivial) h0 h'
    | bytes b t => k_extra "V2"; exact dat_eqAtom (by trivial) h0 h'
    | @tuple a vs n ds hm r =>
      k_extra "V2"
      k_extra "V0"
      cases h' with
      | @tuple a' vs' n' _ hm' r' =>
      k_extra "V2"
      by_cases e : a = a'
      · subst e; exact SeqAt.EqAt.same _
      · have hl : vs.length = vs'.length := r.length.trans r'.length.symm
        have h1 := SeqAt.RcAt.tuples (A := A) (e := fun _ => true) (News.isTup N hm) (News.isTup N hm') (by omega) (fun j h1 h2 => by
          ((k_extra "V1"; obtain ⟨d1, hd1, e1, g1⟩ := datAll_idx r (i := j) (by simpa using h1)) <;> k_extra "V2")
          ((k_extra "V1"; obtain ⟨d2, hd2, e2, g2⟩ := datAll_idx r' (i := j) (by simpa using h2)) <;> k_extra "V2")
          rw [e1] at e2
          ((k_extra "V1"; cases e2) <;> k_extra "V2")
          simp only [List.getElem_toArray]
          exact ih (hd d1 hd1) g1 g2 (by rw [units_in1]; omega))
        rw [all_true _ _ (by simpa using hl)] at h1
        exact SeqAt.EqAt.of_refs e h1
    | @list a vs n ds hm r =>
      k_extra "V2"
      k_extra "V0"
      cases h' with
      | @list a' vs' n' _ hm' r' =>
      k_extra "V2"
      by_cases e : a = a'
      · subst e; exact SeqAt.EqAt.same _
      · have hl : vs.length = vs'.length := r.length.trans r'.length.symm
        have h1 := SeqAt.RcAt.lists (A := A) (e := fun _ => true) (News.isList N hm) (News.isList N hm') (by simpa using hl) (by omega) (fun j h1 h2 => by
          ((k_extra "V1"; obtain ⟨d1, hd1, e1, g1⟩ := datAll_idx r (i := j) (by simpa using h1)) <;> k_extra "V2")
          ((k_extra "V1"; obtain ⟨d2, hd2, e2, g2⟩ := datAll_idx r' (i := j) (by simpa using h2)) <;> k_extra "V2")
          rw [e1] at e2
          ((k_extra "V1"; cases e2) <;> k_extra "V2")
          simp only [List.getElem_toArray]
          exact ih (hd d1 hd1) g1 g2 (by rw [units_in1]; omega))
        rw [show ((List.range vs.toArray.size).all fun _ => true) = true by simp] at h1
        exact SeqAt.EqAt.of_refs e h1
section
variable {prog : Program} {w : World} {A : Around} {E : Value → Shared → Prop} {Q : Value → Shared → Prop}
theorem eq_lists (N : News h₀ L s.heap news) {k : Nat} {a b : Addr} {ds : List Dat} (hd : DatDep k (.list ds)) (h1 : DatIn news (.ref a) (.list ds)) (h2 : DatIn news (.ref b) (.list ds)) (hu : A.units + k < cLine) (h : Q (.bool true) s) : wpAny (model prog w) A (compareOp .Eq (.ref a) (.ref b)) Q E s := by
  cases k with
  | zero => exact hd.elim
  | succ k =>
  k_extra "V0"
  cases h1 with
  | @list _ vs n _ hm r =>
  k_extra "V2"
  k_extra "V0"
  cases h2 with
  | @list _ vs' n' _ hm' r' =>
  k_extra "V2"
  have hl : vs.length = vs'.length := r.length.trans r'.length.symm
  refine SeqAt.eq_listAt (e := fun _ => true) (News.isList N hm) (News.isList N hm') (by simpa using hl) (by omega) (fun j h1 h2 => ?_) (by rw [show ((List.range vs.toArray.size).all fun _ => true) = true by simp]; exact h)
  ((k_extra "V1"; obtain ⟨d1, hd1, e1, g1⟩ := datAll_idx r (i := j) (by simpa using h1)) <;> k_extra "V2")
  ((k_extra "V1"; obtain ⟨d2, hd2, e2, g2⟩ := datAll_idx r' (i := j) (by simpa using h2)) <;> k_extra "V2")
  rw [e1] at e2
  ((k_extra "V1"; cases e2) <;> k_extra "V2")
  simp only [List.getElem_toArray]
  exact dat_eqAt N k (hd d1 hd1) g1 g2 (by rw [units_in1]; omega)
theorem ne_lists (N : News h₀ L s.heap news) {k : Nat} {a b : Addr} {ds : List Dat} (hd : DatDep k (.list ds)) (h1 : DatIn news (.ref a) (.list ds)) (h2 : DatIn news (.ref b) (.list ds)) (hu : A.units + k < cLine) (h : Q (.bool false) s) : wpAny (model prog w) A (compareOp .NotEq (.ref a) (.ref b)) Q E s := by
  cases k with
  | zero => exact hd.elim
  | succ k =>
  k_extra "V0"
  cases h1 with
  | @list _ vs n _ hm r =>
  k_extra "V2"
  k_extra "V0"
  cases h2 with
  | @list _ vs' n' _ hm' r' =>
  k_extra "V2"
  have hl : vs.length = vs'.length := r.length.trans r'.length.symm
  refine SeqAt.RcNeAt.lists (e := fun _ => true) (News.isList N hm) (News.isList N hm') (by simpa using hl) (by omega) (fun j h1 h2 => ?_) prog w E Q (by rw [show ((List.range vs.toArray.size).all fun _ => true) = true by simp]; exact h)
  ((k_extra "V1"; obtain ⟨d1, hd1, e1, g1⟩ := datAll_idx r (i := j) (by simpa using h1)) <;> k_extra "V2")
  ((k_extra "V1"; obtain ⟨d2, hd2, e2, g2⟩ := datAll_idx r' (i := j) (by simpa using h2)) <;> k_extra "V2")
  rw [e1] at e2
  ((k_extra "V1"; cases e2) <;> k_extra "V2")
  simp only [List.getElem_toArray]
  exact dat_eqAt N k (hd d1 hd1) g1 g2 (by rw [units_in1]; omega)
theorem eq_tups (N : News h₀ L s.heap news) {k : Nat} {a b : Addr} {ds : List Dat} (hd : DatDep k (.tuple ds)) (h1 : DatIn news (.ref a) (.tuple ds)) (h2 : DatIn news (.ref b) (.tuple ds)) (hu : A.units + k < cLine) (h : Q (.bool true) s) : wpAny (model prog w) A (compareOp .Eq (.ref a) (.ref b)) Q E s := by
  cases k with
  | zero => exact hd.elim
  | succ k =>
  k_extra "V0"
  cases h1 with
  | @tuple _ vs n _ hm r =>
  k_extra "V2"
  k_extra "V0"
  cases h2 with
  | @tuple _ vs' n' _ hm' r' =>
  k_extra "V2"
  have hl : vs.length = vs'.length := r.length.trans r'.length.symm
  refine SeqAt.eq_tupleAt (e := fun _ => true) (News.isTup N hm) (News.isTup N hm') (by omega) (fun j h1 h2 => ?_) (by rw [all_true _ _ (by simpa using hl)]; exact h)
  ((k_extra "V1"; obtain ⟨d1, hd1, e1, g1⟩ := datAll_idx r (i := j) (by simpa using h1)) <;> k_extra "V2")
  ((k_extra "V1"; obtain ⟨d2, hd2, e2, g2⟩ := datAll_idx r' (i := j) (by simpa using h2)) <;> k_extra "V2")
  rw [e1] at e2
  ((k_extra "V1"; cases e2) <;> k_extra "V2")
  simp only [List.getElem_toArray]
  exact dat_eqAt N k (hd d1 hd1) g1 g2 (by rw [units_in1]; omega)
theorem row_inv {v : Value} {f : Str × Int × Str} (h : DatIn news v (rowD f)) : ∃ a t u t' n, v = .ref a ∧ (a, ({ cls := .type "tuple", data := .seq #[.str f.1 t, .int f.2.1 u, .str f.2.2 t'] n } : Obj)) ∈ news := by
  ((k_extra "V1"; obtain ⟨a, vs, c, e, hm, r⟩ := dat_tup h) <;> k_extra "V2")
  ((k_extra "V1"; obtain ⟨x, vs1, e1, h1, r1⟩ := dats_cons r) <;> k_extra "V2")
  ((k_extra "V1"; obtain ⟨y, vs2, e2, h2, r2⟩ := dats_cons r1) <;> k_extra "V2")
  ((k_extra "V1"; obtain ⟨z, vs3, e3, h3, r3⟩ := dats_cons r2) <;> k_extra "V2")
  ((k_extra "V1"; obtain ⟨t, g1⟩ := dat_str h1) <;> k_extra "V2")
  ((k_extra "V1"; obtain ⟨u, g2⟩ := dat_int h2) <;> k_extra "V2")
  ((k_extra "V1"; obtain ⟨t', g3⟩ := dat_str h3) <;> k_extra "V2")
  rw [e1, e2, e3, g1, g2, g3, dats_nil r3] at hm
  exact ⟨a, t, u, t', c, e, hm⟩
theorem row_eqAt (N : News h₀ L s.heap news) {v v' : Value} {f f' : Str × Int × Str} (h : DatIn news v (rowD f)) (h' : DatIn news v' (rowD f')) (hu : A.units < cLine) : SeqAt.EqAt A s v v' (decide (f = f')) := by
  ((k_extra "V1"; obtain ⟨a, t, u, t', n, rfl, hm⟩ := row_inv h) <;> k_extra "V2")
  ((k_extra "V1"; obtain ⟨a', t2, u2, t3, n', rfl, hm'⟩ := row_inv h') <;> k_extra "V2")
  ((k_extra "V1"; obtain ⟨x, i, y⟩ := f) <;> k_extra "V2")
  ((k_extra "V1"; obtain ⟨x', i', y'⟩ := f') <;> k_extra "V2")
  by_cases e : a = a'
  · subst e
    have e2 := (N.get hm).symm.trans (N.get hm')
    simp only [Option.some.injEq, Obj.mk.injEq, Data.seq.injEq, true_and, and_true] at e2
    ((k_extra "V1"; obtain ⟨e2, -⟩ := e2) <;> k_extra "V2")
    simp only [Array.mk.injEq, List.cons.injEq, Value.str.injEq, Value.int.injEq, and_true] at e2
    ((k_extra "V1"; obtain ⟨⟨rfl, -⟩, ⟨rfl, -⟩, rfl, -⟩ := e2) <;> k_extra "V2")
    rw [decide_eq_true rfl]
    exact SeqAt.EqAt.same _
  · have h1 := SeqAt.RcAt.tuples (A := A) (e := fun j => match j with | 0 => x == x' | 1 => i == i' | _ => y == y') (News.isTup N hm) (News.isTup N hm') hu (fun j h1 h2 => by
      ((k_extra "V1"; rcases j with _ | _ | _ | j) <;> k_extra "V2")
      · exact SeqAt.EqAt.str_str _ _ _ _
      · exact SeqAt.EqAt.int_int _ _ _ _
      · exact SeqAt.EqAt.str_str _ _ _ _
      · exact absurd h1 (by simp))
    have e3 : ((List.range (min (#[Value.str x t, Value.int i u, Value.str y t'] : Array Value).size (#[Value.str x' t2, Value.int i' u2, Value.str y' t3] : Array Value).size)).all (fun j => match j with | 0 => x == x' | 1 => i == i' | _ => y == y') && (#[Value.str x t, Value.int i u, Value.str y t'] : Array Value).size == (#[Value.str x' t2, Value.int i' u2, Value.str y' t3] : Array Value).size) = decide ((x, i, y) = (x', i', y')) := by
      rw [Bool.eq_iff_iff]
      show ((([0, 1, 2] : List Nat).all _ && true) = true) ↔ _
      simp [List.all_cons]
    rw [e3] at h1
    exact SeqAt.EqAt.of_refs e h1
open Classical in
theorem row_notIn (N : News h₀ L s.heap news) {a : Addr} {vs : List Value} {n : Nat} {v : Value} {f : Str × Int × Str} {fs : List (Str × Int × Str)} (hm : (a, listOf vs.toArray n) ∈ news) (hv : DatAll news vs (fs.map rowD)) (h : DatIn news v (rowD f)) (hu : A.units + 1 < cLine) (hq : Q (.bool (!decide (f ∈ fs))) s) : wpAny (model prog w) A (compareOp .NotIn v (.ref a)) Q E s := by
  have key : ∀ {vs : List Value} {fs : List (Str × Int × Str)}, DatAll news vs (fs.map rowD) → (∀ y ∈ vs, ∃ f' ∈ fs, DatIn news y (rowD f')) ∧ ∀ f' ∈ fs, ∃ y ∈ vs, DatIn news y (rowD f') := by
    intro vs
    induction vs with
    | nil => intro fs h; cases fs with | nil => exact ⟨by simp, by simp⟩ | cons _ _ => cases h
    | cons y vs ih =>
      intro fs h
      cases fs with
      | nil => cases h
      | cons g fs =>
        k_extra "V0"
        cases h with
        | cons p q =>
          k_extra "V2"
          ((k_extra "V1"; obtain ⟨i1, i2⟩ := ih q) <;> k_extra "V2")
          refine ⟨fun z hz => ?_, fun z hz => ?_⟩
          · ((k_extra "V1"; rcases List.mem_cons.mp hz with rfl | hz) <;> k_extra "V2")
            · exact ⟨g, List.mem_cons_self, p⟩
            · ((k_extra "V1"; obtain ⟨f', h1, h2⟩ := i1 z hz) <;> k_extra "V2"); exact ⟨f', List.mem_cons_of_mem _ h1, h2⟩
          · ((k_extra "V1"; rcases List.mem_cons.mp hz with rfl | hz) <;> k_extra "V2")
            · exact ⟨y, List.mem_cons_self, p⟩
            · ((k_extra "V1"; obtain ⟨f', h1, h2⟩ := i2 z hz) <;> k_extra "V2"); exact ⟨f', List.mem_cons_of_mem _ h1, h2⟩
  ((k_extra "V1"; obtain ⟨k1, k2⟩ := key hv) <;> k_extra "V2")
  have uniq : ∀ {y : Value} {f1 f2 : Str × Int × Str}, DatIn news y (rowD f1) → DatIn news y (rowD f2) → f1 = f2 := by
    intro y f1 f2 h1 h2
    ((k_extra "V1"; obtain ⟨a, t, u, t', n, rfl, hm⟩ := row_inv h1) <;> k_extra "V2")
    ((k_extra "V1"; obtain ⟨a', t2, u2, t3, n', e, hm'⟩ := row_inv h2) <;> k_extra "V2")
    ((k_extra "V1"; cases e) <;> k_extra "V2")
    have e2 := (N.get hm).symm.trans (N.get hm')
    simp only [Option.some.injEq, Obj.mk.injEq, Data.seq.injEq, true_and, and_true] at e2
    ((k_extra "V1"; obtain ⟨e2, -⟩ := e2) <;> k_extra "V2")
    simp only [Array.mk.injEq, List.cons.injEq, Value.str.injEq, Value.int.injEq, and_true] at e2
    ((k_extra "V1"; obtain ⟨⟨h1, -⟩, ⟨h2, -⟩, h3, -⟩ := e2) <;> k_extra "V2")
    exact Prod.ext h1 (Prod.ext h2 h3)
  refine SeqAt.notIn_listAt (fun y => decide (DatIn news y (rowD f))) (News.isList N hm) (fun y hy => ?_) ?_
  · ((k_extra "V1"; obtain ⟨f', hf', hy'⟩ := k1 y (by simpa using hy)) <;> k_extra "V2")
    have := row_eqAt (A := A.in1) N hy' h (by rw [units_in1]; exact hu)
    have e : decide (f' = f) = decide (DatIn news y (rowD f)) := by
      by_cases e : f' = f
      · subst e; simp [hy']
      · rw [decide_eq_false e, decide_eq_false fun z => e (uniq hy' z)]
    rw [← e]; exact this
  · have e : (vs.toArray.any fun y => decide (DatIn news y (rowD f))) = decide (f ∈ fs) := by
      rw [Bool.eq_iff_iff]
      simp only [List.any_toArray, List.any_eq_true, decide_eq_true_eq]
      constructor
      · intro z0_
        ((k_extra "V1"; obtain ⟨y, hy, hd⟩ := z0_) <;> k_extra "V2")
        ((k_extra "V1"; obtain ⟨f', hf', hy'⟩ := k1 y hy) <;> k_extra "V2")
        rw [uniq hd hy']; exact hf'
      · intro hf
        ((k_extra "V1"; obtain ⟨y, hy, hd⟩ := k2 f hf) <;> k_extra "V2")
        exact ⟨y, hy, hd⟩
    rw [e]; exact hq
end
end
set_option tactic.hygienic true in
theorem toldF_dep : ∀ (n : Nat) (d : PV), DatDep (3 * n) (toldF n d)
  | 0, _ => trivial
  | n + 1, d => by
    have ih := toldF_dep n
    have e : 3 * (n + 1) = (3 * n + 2) + 1 := by omega
    rw [e]
    have hs : ∀ l : List (Str × PV), ∀ x ∈ (Dat.str "dict" :: l.map fun e => Dat.tuple [.str e.1, toldF n e.2]), DatDep (3 * n + 1) x := by
      intro l x hx
      ((k_extra "V1"; rcases List.mem_cons.mp hx with rfl | hx) <;> k_extra "V2")
      · trivial
      · ((k_extra "V1"; obtain ⟨e, he, rfl⟩ := List.mem_map.mp hx) <;> k_extra "V2")
        intro y hy
        simp only [List.mem_cons, List.not_mem_nil, or_false] at hy
        ((k_extra "V1"; rcases hy with rfl | rfl) <;> k_extra "V2")
        · cases n <;> trivial
        · exact ih _
    cases d <;> intro x hx
    all_goals try (simp only [List.mem_cons, List.not_mem_nil, or_false] at hx; first | (rcases hx with rfl | rfl | rfl <;> trivial) | (rcases hx with rfl | rfl <;> trivial) | (subst hx; trivial))
    case arr l =>
      ((k_extra "V1"; rcases List.mem_cons.mp hx with rfl | hx) <;> k_extra "V2")
      · trivial
      · ((k_extra "V1"; obtain ⟨e, he, rfl⟩ := List.mem_map.mp hx) <;> k_extra "V2")
        exact (ih e).mono (by omega)
    case dict l => exact (hs l x hx).mono (by omega)
    case stream l b =>
      simp only [List.mem_cons, List.not_mem_nil, or_false] at hx
      ((k_extra "V1"; rcases hx with rfl | rfl | rfl) <;> k_extra "V2")
      · trivial
      · exact hs l
      · trivial
theorem shelfD_dep (tab : List (Int × Int × PV)) (tr : List (Str × PV)) : ∃ ds, shelfD tab tr = .tuple ds ∧ DatDep 22 (.tuple ds) := by
  refine ⟨_, rfl, ?_⟩
  intro x hx
  simp only [List.mem_cons, List.not_mem_nil, or_false] at hx
  ((k_extra "V1"; rcases hx with rfl | rfl) <;> k_extra "V2")
  · intro y hy
    ((k_extra "V1"; obtain ⟨k, hk, rfl⟩ := List.mem_map.mp hy) <;> k_extra "V2")
    unfold rowOf
    split
    · intro z hz
      simp only [List.mem_cons, List.not_mem_nil, or_false] at hz
      ((k_extra "V1"; rcases hz with rfl | rfl | rfl) <;> k_extra "V2")
      · trivial
      · trivial
      · exact (toldF_dep 6 _).mono (by decide)
    · trivial
  · exact (toldF_dep 6 _).mono (by decide)
theorem rows_dep (fs : List (Str × Int × Str)) : DatDep 2 (.list (fs.map rowD)) := by
  intro x hx
  ((k_extra "V1"; obtain ⟨f, hf, rfl⟩ := List.mem_map.mp hx) <;> k_extra "V2")
  intro y hy
  simp only [List.mem_cons, List.not_mem_nil, or_false] at hy
  ((k_extra "V1"; rcases hy with rfl | rfl | rfl) <;> k_extra "V2") <;> trivial
theorem list_loop2 {prog : Program} {w : World} {A : Around} {E : Value → Shared → Prop} {s : Shared} {env : Env} {h₀ : Heap} {x : Str} {body : List Stmt} {Q : Flow → Shared → Prop} {I : Addr} {lp : Addr × Obj} {vs : List Value} {m : Str → Option Value} {news : List (Addr × Obj)} (J : Nat → (Str → Option Value) → List (Addr × Obj) → Prop) (h0 : J 0 m news)
    (step : ∀ i v m₁ n₁, vs[i]? = some v → J i m₁ n₁ → ∀ (it : Obj) h tk, it.cls = .type "list_iterator" → Fr h₀ env.locals h (fun y => if y = x then some v else m₁ y) → News h₀ env.locals h ((I, it) :: n₁) → ∀ J' : (Str → Option Value) → List (Addr × Obj) → Prop, (∀ m' n', lp ∈ n' → J (i + 1) m' n' → J' m' n') →
      wpAny (model prog w) A (execs body env) (UnrPost h₀ env.locals { s with heap := h, toks := tk } I it J' Q) E { s with heap := h, toks := tk })
    (fin : ∀ m₁ n₁ h tk, J vs.length m₁ n₁ → Fr h₀ env.locals h m₁ → News h₀ env.locals h n₁ → Q .next { s with heap := h, toks := tk }) : ListRest prog w A E h₀ env x body Q s I lp vs m news :=
  list_loop J h0 (fun i v m₁ n₁ hv hJ it h tk hc F N => step i v m₁ n₁ hv hJ it h tk hc F N _ fun m' n' a b => ⟨a, b⟩) fin
section
variable {prog : Program} {w : World} {A : Around} {E : Value → Shared → Prop} {s : Shared} {h₀ : Heap} {L : Addr} {news : List (Addr × Obj)} {Q : Value → Shared → Prop}
theorem tab_notIn {d : Addr} {o : Obj} {kvs : List (Int × Value)} {x : Int} {t : Tok} (N : News h₀ L s.heap news) (hp : (d, o) ∈ news) (hd : o.IsDictOf (PySem.intKind PG w) kvs) (lo : (d == sysModules) = false) (b : Bool) (hb : (valueAt kvs x).isSome = b) (h : Q (.bool (!b)) { s with toks := s.toks + 1 }) :
    wpAny (model PG w) A (compareOp .NotIn (.int x t) (.ref d)) Q E s := wpAny_notIn_of (intKind_is _ _ _ _) lo (kda_dict N hp hd).mapOf (by rw [hb]; exact h)
theorem row_any (N : News h₀ L s.heap news) {a : Addr} {vs : List Value} {n : Nat} {v : Value} {f : Str × Int × Str} {fs : List (Str × Int × Str)} (hm : (a, listOf vs.toArray n) ∈ news) (hv : DatAll news vs (fs.map rowD)) (h : DatIn news v (rowD f)) (hu : A.units + 1 < cLine) (h1 : f ∈ fs → Q (.bool false) s) (h2 : f ∉ fs → Q (.bool true) s) : wpAny (model prog w) A (compareOp .NotIn v (.ref a)) Q E s := by
  classical
  by_cases hf : f ∈ fs
  · exact row_notIn N hm hv h hu (by rw [decide_eq_true hf]; exact h1 hf)
  · exact row_notIn N hm hv h hu (by rw [decide_eq_false hf]; exact h2 hf)
end
def missStep (tab : List (Int × Int × PV)) (place : Int) (acc : List (Str × Int × Str)) (q : Int × Int) : List (Str × Int × Str) := if thereD tab q = true then acc else if fnd "reference" place (msgRef q) ∈ acc then acc else acc ++ [fnd "reference" place (msgRef q)]
def missD (tab : List (Int × Int × PV)) (place : Int) (ps : List (Int × Int)) : List (Str × Int × Str) := ps.foldl (missStep tab place) []
theorem missStep_len (tab : List (Int × Int × PV)) (place : Int) (acc : List (Str × Int × Str)) (q : Int × Int) : (missStep tab place acc q).length ≤ acc.length + 1 := by
  unfold missStep; split
  · omega
  · split
    · omega
    · simp
theorem miss_len (tab : List (Int × Int × PV)) (place : Int) : ∀ (ps : List (Int × Int)) (acc : List (Str × Int × Str)), (ps.foldl (missStep tab place) acc).length ≤ acc.length + ps.length
  | [], _ => Nat.le_refl _
  | q :: ps, acc => by
    have h1 := missStep_len tab place acc q
    have h2 := miss_len tab place ps (missStep tab place acc q)
    rw [List.foldl_cons, List.length_cons]; omega
inductive MSt (S fa : Addr) (place : Int) (tp : Tok) (I : Addr) (news : List (Addr × Obj)) (fs : List (Str × Int × Str)) (m : Str → Option Value) (n : List (Addr × Obj)) : Prop
  | mk : ∀ dv nf tl, m "shelf" = some (.ref S) → m "place" = some (.int place tp) → m "due" = some (.ref fa) → n = (fa, listOf (List.toArray dv) nf) :: (tl ++ news) → DatAll tl dv (fs.map rowD) → (∀ q ∈ tl, q.1 ≠ fa) → (∀ q ∈ tl, q.1 ≠ I) → Apart news tl → MSt S fa place tp I news fs m n
theorem missing_ok (w : World) {S PL : Addr} {place : Int} {tp : Tok} {tab : List (Int × Int × PV)} {tr : List (Str × PV)} {ps : List (Int × Int)} {vs : List Value} {np : Nat} {n0 news : List (Addr × Obj)} (hS : Shelved w n0 S tab tr) (hs : ∀ q ∈ n0, q ∈ news) (hP : (PL, listOf (List.toArray vs) np) ∈ news) (hv : PairsAt news vs ps) (hok : PairsOk ps) : CallC w 479 20 120 [.ref S, .int place tp, .ref PL] news (PlainPost (.list ((missD tab place ps).map rowD)) news) := by
  (k_with "GO" =>
  refine CallC.gen fun PQ hPQ => ?_
  refine enterC (dc := 19) (uc := 117) (binds := [("shelf", .ref S), ("place", .int place tp), ("pairs", .ref PL)]) (look_479 _) (code_479 _) (fun s _ => BindsTo.of_eq rfl) (locs rfl) rfl rfl rfl (by decide) ?_
  intro dp un gd outer A₀ base g mean mg mb L s B F X N' T' hd hu
  have hSn := hS.mono hs
  clear hS hs
  have hS := hSn
  ((k_extra "V1"; obtain ⟨T, TR, oT, kvs, ⟨sd, tS, tS', nS, hS1, hS2⟩, h2, lo, hT, htab, h6, h7⟩ := hS) <;> k_extra "V2")
  have hvl := hv.length
  ((k_extra "V1"; obtain ⟨hp3, hpo⟩ := hok) <;> k_extra "V2")
  dsimp only [F479]
  repeat' (k_extra "zS"; (fail_if_success (with_reducible show wpAny _ _ (pyIter (Value.ref _)) _ _ _)); first | k_extra "zP" | k_extra "FORV" | k_extra "zQ")
  rename_i fa hx1 hx2 tk0; rename AllLt _ _ => lfa
  have ofa : ∀ q ∈ news, q.1 ≠ fa := by k_all
  rename (Fr _ _ _ _) => F9; rename (News _ _ _ _) => N9
  refine iter_listUnr (n := np) (vs := vs) (lo := listOf vs.toArray np) (by rfl) F9 N9 (by k_mem) rfl rfl (fun I hI => ?_)
  have fI : fa < I := hI (fa, _) (by k_mem)
  have nI : AllLt I news := allLt_of fun q hq => hI q (by k_mem)
  refine list_loop2 (fun i m₁ n₁ => MSt S fa place tp I news ((ps.take i).foldl (missStep tab place) []) m₁ n₁) ⟨[], 0, [], by k_extra "NX", by k_extra "NX", by k_extra "NX", rfl, .nil, by simp, by simp, Apart.nil⟩ ?_ ?_
  · intro i v m₁ n₁ hvi z5_ it h1 tk1 hc F1 N1 J' hJ'
    ((k_extra "V1"; obtain ⟨dv, nf, tl, m1, m2, m3, rfl, hD, o1, o2, ha⟩ := z5_) <;> k_extra "V2")
    ((k_extra "V1"; obtain ⟨t2, qa, qb, uq, uq', nq, rfl, hmq, hq⟩ := hv.at hvi) <;> k_extra "V2")
    ((k_extra "V1"; obtain ⟨q1, q2, q3, q4⟩ := hpo _ (List.mem_of_getElem? hq)) <;> k_extra "V2")
    dsimp only at q1 q2 q3 q4
    have hil : i < 3 := by
      have := (List.getElem?_eq_some_iff.mp hq).1
      omega
    have hdl : dv.length ≤ 3 := by
      have h1 := hD.length
      have h2 := miss_len tab place (ps.take i) []
      rw [List.length_map] at h1
      have h3 : (ps.take i).length ≤ 3 := by rw [List.length_take]; omega
      simp only [List.length_nil] at h2
      omega
    have hst : (ps.take (i + 1)).foldl (missStep tab place) [] = missStep tab place ((ps.take i).foldl (missStep tab place) []) (qa, qb) := by rw [List.take_add_one, hq, Option.toList_some, List.foldl_append]; rfl
    refine tab_el htab qa (fun hva htb => ?_) (fun t gg u xv d n hva hm hvx htb => ?_)
    · have hth : thereD tab (qa, qb) = false := by simp only [thereD, htb]
      repeat' (k_extra "zS"; (k_extra "TU"); first | k_extra "zP" | k_extra "zN" | ((with_reducible show wpAny _ _ (compareOp CmpOp.NotIn (Value.int _ _) (Value.ref T)) _ _ _); refine tab_notIn (by k_asm) (by k_mem) hT lo false (by rw [hva]; rfl) ?_; dsimp only [Bool.not_true, Bool.not_false]) | ((with_reducible show wpAny _ _ (compareOp CmpOp.NotIn (Value.ref _) (Value.ref fa)) _ _ _); refine row_any (f := fnd (Str.ofString "reference") place (msgRef (qa, qb))) (by k_asm) (by k_mem) (hD.mono (by k_extra "zU")) (DatIn.tuple (by k_mem) (.cons (.str _ _) (.cons (.int _ _) (.cons (.str _ _) .nil)))) (by k_extra "UNITS") (fun hf => ?_) (fun hf => ?_)) | k_extra "zQ")
      · have hstep : (ps.take (i + 1)).foldl (missStep tab place) [] = (ps.take i).foldl (missStep tab place) [] := by rw [hst, missStep, if_neg (by rw [hth]; decide), if_pos hf]
        rename (Fr _ _ _ _) => F9; rename (News _ _ _ _) => N9
        refine unr_spl1 (c := (fa, _)) (fr := tl ++ news) F9 N9 (by repeat (first | exact splC2 | apply SplC.cons | apply SplC.app)) ?off (hJ' _ _ (by k_mem) ⟨dv, nf, [_] ++ tl, by k_extra "NX", by k_extra "NX", by k_extra "NX", rfl, ?st, ?o1, ?o2, ?ap⟩)
        case off => k_all
        case st => rw [hstep]; exact hD.mono fun q hq => List.mem_append_right _ hq
        case o1 => k_all
        case o2 => k_all
        case ap => k_extra "zA"
      · have hstep : (ps.take (i + 1)).foldl (missStep tab place) [] = (ps.take i).foldl (missStep tab place) [] ++ [fnd "reference" place (msgRef (qa, qb))] := by rw [hst, missStep, if_neg (by rw [hth]; decide), if_neg hf]
        rename (Fr _ _ _ _) => F9; rename (News _ _ _ _) => N9; simp only [List.push_toArray] at N9
        refine unr_spl1 (c := (fa, _)) (fr := tl ++ news) F9 N9 (by repeat (first | exact splC2 | apply SplC.cons | apply SplC.app)) ?off (hJ' _ _ (by k_mem) ⟨dv ++ [_], _, [_] ++ tl, by k_extra "NX", by k_extra "NX", by k_extra "NX", rfl, ?st, ?o1, ?o2, ?ap⟩)
        case off => k_all
        case st => rw [hstep, List.map_append]; exact datAll_snoc hD (DatIn.tuple (by k_mem) (.cons (.str _ _) (.cons (.int _ _) (.cons (.str _ _) .nil))))
        case o1 => k_all
        case o2 => k_all
        case ap => k_extra "zA"
    by_cases he : gg = qb
    · have hth : thereD tab (qa, qb) = true := by simp only [thereD, htb]; exact decide_eq_true he
      have hne : (gg != qb) = false := by rw [he]; exact bne_self_eq_false' _
      have hstep : (ps.take (i + 1)).foldl (missStep tab place) [] = (ps.take i).foldl (missStep tab place) [] := by rw [hst, missStep, if_pos hth]
      repeat' (k_extra "zS"; (k_extra "TU"); first | k_extra "zP" | k_extra "zN" | ((with_reducible show wpAny _ _ (compareOp CmpOp.NotIn (Value.int _ _) (Value.ref T)) _ _ _); refine tab_notIn (by k_asm) (by k_mem) hT lo true (by rw [hva]; rfl) ?_; dsimp only [Bool.not_true, Bool.not_false]) | ((with_reducible show wpAny _ _ (subscriptTail _ _ (Value.ref T) (Value.int _ _)) _ _ _); refine kda_item (knd := PySem.intKind _ _) (by k_asm) (by k_mem) hT (intKind_is _ _ _ _) hva ?_) | ((with_reducible show wpAny _ _ (compareOp CmpOp.NotEq (Value.int gg _) (Value.int qb _)) _ _ _); refine PyProof.Rows.ne_int ?_; rw [hne]) | k_extra "zQ")
      rename (Fr _ _ _ _) => F9; rename (News _ _ _ _) => N9
      refine unr_spl1 (c := (fa, _)) (fr := tl ++ news) F9 N9 (by repeat (first | exact splC2 | apply SplC.cons | apply SplC.app)) ?off (hJ' _ _ (by k_mem) ⟨dv, nf, [_] ++ tl, by k_extra "NX", by k_extra "NX", by k_extra "NX", rfl, ?st, ?o1, ?o2, ?ap⟩)
      case off => k_all
      case st => rw [hstep]; exact hD.mono fun q hq => List.mem_append_right _ hq
      case o1 => k_all
      case o2 => k_all
      case ap => k_extra "zA"
    · have hth : thereD tab (qa, qb) = false := by simp only [thereD, htb]; exact decide_eq_false he
      have hne : (gg != qb) = true := bne_iff_ne.mpr he
      repeat' (k_extra "zS"; (k_extra "TU"); first | k_extra "zP" | k_extra "zN" | ((with_reducible show wpAny _ _ (compareOp CmpOp.NotIn (Value.int _ _) (Value.ref T)) _ _ _); refine tab_notIn (by k_asm) (by k_mem) hT lo true (by rw [hva]; rfl) ?_; dsimp only [Bool.not_true, Bool.not_false]) | ((with_reducible show wpAny _ _ (subscriptTail _ _ (Value.ref T) (Value.int _ _)) _ _ _); refine kda_item (knd := PySem.intKind _ _) (by k_asm) (by k_mem) hT (intKind_is _ _ _ _) hva ?_) | ((with_reducible show wpAny _ _ (compareOp CmpOp.NotEq (Value.int gg _) (Value.int qb _)) _ _ _); refine PyProof.Rows.ne_int ?_; rw [hne]) | ((with_reducible show wpAny _ _ (compareOp CmpOp.NotIn (Value.ref _) (Value.ref fa)) _ _ _); refine row_any (f := fnd (Str.ofString "reference") place (msgRef (qa, qb))) (by k_asm) (by k_mem) (hD.mono (by k_extra "zU")) (DatIn.tuple (by k_mem) (.cons (.str _ _) (.cons (.int _ _) (.cons (.str _ _) .nil)))) (by k_extra "UNITS") (fun hf => ?_) (fun hf => ?_)) | k_extra "zQ")
      · have hstep : (ps.take (i + 1)).foldl (missStep tab place) [] = (ps.take i).foldl (missStep tab place) [] := by rw [hst, missStep, if_neg (by rw [hth]; decide), if_pos hf]
        rename (Fr _ _ _ _) => F9; rename (News _ _ _ _) => N9
        refine unr_spl1 (c := (fa, _)) (fr := tl ++ news) F9 N9 (by repeat (first | exact splC2 | apply SplC.cons | apply SplC.app)) ?off (hJ' _ _ (by k_mem) ⟨dv, nf, [_] ++ tl, by k_extra "NX", by k_extra "NX", by k_extra "NX", rfl, ?st, ?o1, ?o2, ?ap⟩)
        case off => k_all
        case st => rw [hstep]; exact hD.mono fun q hq => List.mem_append_right _ hq
        case o1 => k_all
        case o2 => k_all
        case ap => k_extra "zA"
      · have hstep : (ps.take (i + 1)).foldl (missStep tab place) [] = (ps.take i).foldl (missStep tab place) [] ++ [fnd "reference" place (msgRef (qa, qb))] := by rw [hst, missStep, if_neg (by rw [hth]; decide), if_neg hf]
        rename (Fr _ _ _ _) => F9; rename (News _ _ _ _) => N9; simp only [List.push_toArray] at N9
        refine unr_spl1 (c := (fa, _)) (fr := tl ++ news) F9 N9 (by repeat (first | exact splC2 | apply SplC.cons | apply SplC.app)) ?off (hJ' _ _ (by k_mem) ⟨dv ++ [_], _, [_] ++ tl, by k_extra "NX", by k_extra "NX", by k_extra "NX", rfl, ?st, ?o1, ?o2, ?ap⟩)
        case off => k_all
        case st => rw [hstep, List.map_append]; exact datAll_snoc hD (DatIn.tuple (by k_mem) (.cons (.str _ _) (.cons (.int _ _) (.cons (.str _ _) .nil))))
        case o1 => k_all
        case o2 => k_all
        case ap => k_extra "zA"
  · intro m₁ n₁ h1 tk1 z4_ F1 N1
    ((k_extra "V1"; obtain ⟨dv, nf, tl, m1, m2, m3, rfl, hD, o1, o2, ha⟩ := z4_) <;> k_extra "V2")
    repeat' (k_extra "zS"; first | k_extra "zP" | k_extra "zN" | k_extra "zQ")
    rw [hvl, List.take_length] at hD
    refine RetP.intro F1 N1 (hPQ _ _ ⟨(fa, _) :: tl, fun q hq => hq, DatIn.list (by k_mem) (hD.mono fun q hq => List.mem_cons_of_mem _ hq), Apart.cons ofa ha⟩)
  )
  k_extra "GG"
section
local macro_rules | `(tactic| k_enter) => `(tactic| (refine' code_def ?k1 ?k2 ?k3 ?k4 ?k5 ?kA ?kF ?kK ?k6 ?k7 ?k8 ?k9 ?kB ?_ ?c2 ?c3 ?c4 ?c5; (case kA => exact rfl); (case kF => exact rfl); (case kK => assumption); (case k1 => k_asm); (case k2 => k_asm); (case k3 => k_asm); (case k4 => k_asm); (case k5 => k_asm); (case k6 => k_is); (case k7 => k_is); (case k8 => ktr_room); (case k9 => first | exact BindsTo.of_eq rfl | exact binds_K (by k_in) rfl (by k_is) rfl rfl rfl); (case c5 => decide); (case kB => exact locs rfl); (case c2 => exact rfl); (case c3 => exact rfl); (case c4 => exact rfl); k_whole; intro g' L' h' FG' F' N' B' X' T'; (try dsimp only); (try k_fold)))
theorem dec_stop {p n k : Int} (h10 : Int.fmod n 10 ≠ 0) (hp : 0 < p) (h1 : k ≤ p) (h2 : ∀ j : Int, k < j → j ≤ p → (if 0 < j then if ((accDown (fun _ x => x.fdiv 10) p n j).fmod 10 == 0) = true then true else false else false) = true) : k = p := by
  by_cases e : k = p
  · exact e
  · have h := h2 p (by omega) (Int.le_refl _)
    rw [accDown_start, if_pos hp] at h
    simp [h10] at h
theorem new_dec {w : World} {n : Int} {u v : Tok} (h10 : Int.fmod n 10 ≠ 0) {dp un : Nat} {gd : Option (List Code)} {cn : Str} {cs : Scope} {a : Addr} {ccd : Value} {cl : List (Str × Addr)} {outer : List Env} {A₀ : Around} {base h₀ : Heap} {mean : ExcName → Option Value} {mg mb : Str → Option Value} {L : Addr} {m : Str → Option Value} {s : Shared} {Q E : Value → Shared → Prop} {news : List (Addr × Obj)}
    (B : Below A₀ base outer h₀) (F : Fr h₀ L s.heap m) (X : (K w.params).In h₀) (N : News h₀ L s.heap news) (T : TopV mean mg mb h₀) (hk : cs.kind = .function) (hd : dp + 3 < recursionLimit) (hu : un + 30 < cLine) {p : Int} (hp : 0 < p)
    (ret : ∀ x' dx tk0 u0 tk1 v0 n' h' tk', Fr h₀ L h' m → News h₀ L h' ((x', instObj 150 dx) :: (dx, dictOf [ent w "top" tk0 (.int n u0), ent w "places" tk1 (.int p v0)] n') :: news) → AllLt dx news → @LT.lt Nat _ dx x' → Q (.ref x') { s with heap := h', toks := tk' }) :
    wpAny (model PG w) (ktrTop dp un gd cn cs L a ccd cl outer) (call (.ref 150) [.int n u, .int p v]) Q E s := by
  k_steps
  rename (∀ j : Int, _ < j → _ ≤ p → _ = true) => hk3
  rename (_ ≤ p) => hk4
  have e := dec_stop h10 hp hk4 hk3
  clear hk3
  subst e
  rename (News h₀ L _ _) => kN
  rename (Fr h₀ L _ _) => kF
  rw [accDown_start] at kN
  exact ret _ _ _ _ _ _ _ _ _ kF kN (by assumption) (by assumption)
end
def boxCases : List (PV × Bool) := [(.arr [.int 0, .dec 5 1, .int 10, .ref 1 0], true), (.none, false), (.arr [.int 0, .dec 5 1, .int 10], false), (.arr [.int 0, .dec 5 1, .int 10, .ref 1 0, .int 1], false), (.arr [.int 0, .int 0, .bool true, .int 1], false), (.arr [.int 0, .int 0, .name "A", .int 1], false)]
theorem five_at {a b c d e v : Value} {k : Nat} (h : [a, b, c, d, e][k]? = some v) : v = a ∨ v = b ∨ v = c ∨ v = d ∨ v = e := by
  ((k_extra "V1"; rcases k with _ | _ | _ | _ | _ | k) <;> k_extra "V2")
  all_goals first | exact .inl (Option.some.inj h).symm | exact (.inr (.inl (Option.some.inj h).symm)) | exact (.inr (.inr (.inl (Option.some.inj h).symm))) | exact (.inr (.inr (.inr (.inl (Option.some.inj h).symm)))) | exact (.inr (.inr (.inr (.inr (Option.some.inj h).symm)))) | (simp at h; done)
inductive BoxPost2 (w : World) (p c : Addr) (N : Int) (o : Obj) (fr : List (Addr × Obj)) (r : Value) (news' : List (Addr × Obj)) : Prop
  | mk : ∀ o' tl T n v d b, r = .ref T → news' = (p, o') :: (tl ++ fr) → PenInv c (N + 1) o' → (T, ({ cls := .type "tuple", data := .seq #[v, .bool b] n } : Obj)) ∈ tl → VIn w tl v d → (d, b) ∈ boxCases → Apart ((p, o) :: fr) tl → BoxPost2 w p c N o fr r news'
theorem lbox_ok (w : World) (p c : Addr) (o oc : Obj) (fr : List (Addr × Obj)) (N : Int) (hC : PenC p c oc) (hc : (c, oc) ∈ fr) (hfr : ∀ q ∈ fr, q.1 ≠ p) (ho : PenInv c N o) (hN : N ≤ 90000) :
    CallC w 491 10 60 [.ref p] ((p, o) :: fr) (BoxPost2 w p c N o fr) := by
  (k_with "GO" =>
  refine CallC.gen fun PQ hPQ => ?_
  refine enterC (dc := 9) (uc := 57) (binds := [("pen", .ref p)]) (look_491 _) (code_491 _) (fun s _ => BindsTo.of_eq rfl) (locs rfl) rfl rfl rfl (by decide) ?_
  intro dp un gd outer A₀ base g mean mg mb L s B F X N' T' hd hu
  dsimp only [F491]
  repeat' (k_extra "zS"; first | k_extra "zP" | k_extra "NEWD" | ((with_reducible show wpAny _ _ (subscriptTail _ _ (Value.ref _) (Value.int _ _)) _ _ _); refine item_menu (News.isList (by k_asm) (by k_mem)) (by omega) (by simp only [List.length_cons, List.length_nil]; omega) (by simp only [List.length_cons, List.length_nil]; omega) ?_; intro vM hM) | k_extra "zQ")
  · k_extra "RETP"
    refine' hPQ _ _ ⟨_, _, _, _, _, .arr [.int 0, .dec 5 1, .int 10, .ref 1 0], true, rfl, rfl, ?pn, ?m, ?v, by repeat (first | exact List.Mem.head _ | apply List.Mem.tail), ?a⟩
    case pn => with_reducible assumption
    case m => k_mem
    case v => exact VIn.arr (by k_mem) (.cons (.int _ _) (.cons (.dec (by k_mem) (by k_mem)) (.cons (.int _ _) (.cons (.ref (by k_mem) (by k_mem)) .nil))))
    case a => k_extra "zA"
  · k_extra "RETP"
    ((k_extra "V1"; rcases five_at hM with rfl | rfl | rfl | rfl | rfl) <;> k_extra "V2")
    · refine' hPQ _ _ ⟨_, _, _, _, _, .none, false, rfl, rfl, ?pn, ?m, ?v, by repeat (first | exact List.Mem.head _ | apply List.Mem.tail), ?a⟩
      case pn => with_reducible assumption
      case m => k_mem
      case v => exact VIn.none
      case a => k_extra "zA"
    · refine' hPQ _ _ ⟨_, _, _, _, _, .arr [.int 0, .dec 5 1, .int 10], false, rfl, rfl, ?pn, ?m, ?v, by repeat (first | exact List.Mem.head _ | apply List.Mem.tail), ?a⟩
      case pn => with_reducible assumption
      case m => k_mem
      case v => exact VIn.arr (by k_mem) (.cons (.int _ _) (.cons (.dec (by k_mem) (by k_mem)) (.cons (.int _ _) .nil)))
      case a => k_extra "zA"
    · refine' hPQ _ _ ⟨_, _, _, _, _, .arr [.int 0, .dec 5 1, .int 10, .ref 1 0, .int 1], false, rfl, rfl, ?pn, ?m, ?v, by repeat (first | exact List.Mem.head _ | apply List.Mem.tail), ?a⟩
      case pn => with_reducible assumption
      case m => k_mem
      case v => exact VIn.arr (by k_mem) (.cons (.int _ _) (.cons (.dec (by k_mem) (by k_mem)) (.cons (.int _ _) (.cons (.ref (by k_mem) (by k_mem)) (.cons (.int _ _) .nil)))))
      case a => k_extra "zA"
    · refine' hPQ _ _ ⟨_, _, _, _, _, .arr [.int 0, .int 0, .bool true, .int 1], false, rfl, rfl, ?pn, ?m, ?v, by repeat (first | exact List.Mem.head _ | apply List.Mem.tail), ?a⟩
      case pn => with_reducible assumption
      case m => k_mem
      case v => exact VIn.arr (by k_mem) (.cons (.int _ _) (.cons (.int _ _) (.cons (.bool _) (.cons (.int _ _) .nil))))
      case a => k_extra "zA"
    · refine' hPQ _ _ ⟨_, _, _, _, _, .arr [.int 0, .int 0, .name "A", .int 1], false, rfl, rfl, ?pn, ?m, ?v, by repeat (first | exact List.Mem.head _ | apply List.Mem.tail), ?a⟩
      case pn => with_reducible assumption
      case m => k_mem
      case v => exact VIn.arr (by k_mem) (.cons (.int _ _) (.cons (.int _ _) (.cons (.name (by k_mem) (by k_mem)) (.cons (.int _ _) .nil))))
      case a => k_extra "zA"
  )
  k_extra "GG"
theorem fall_at {w : World} {news : List (Addr × Obj)} {vs : List Value} {fs : List (Str × Int × Str)} (h : FAll w news vs fs) : ∀ {i : Nat} {v : Value}, vs[i]? = some v → ∃ f, fs[i]? = some f ∧ FIn w news v f := by
  induction h with
  | nil => intro i v e; simp at e
  | cons a r ih =>
    intro i v e
    ((k_extra "V1"; rcases i with _ | i) <;> k_extra "V2")
    · simp only [List.getElem?_cons_zero, Option.some.injEq] at e; exact ⟨_, rfl, e ▸ a⟩
    · simp only [List.getElem?_cons_succ] at e ⊢; exact ih e
section use
variable {w : World} {dp un : Nat} {gd : Option (List Code)} {cn : Str} {cs : Scope} {a : Addr} {ccd : Value} {cl : List (Str × Addr)} {outer : List Env} {A₀ : Around} {base h₀ : Heap} {mean : ExcName → Option Value} {mg mb : Str → Option Value} {L : Addr} {m : Str → Option Value} {s : Shared} {Q E : Value → Shared → Prop} {news n0 : List (Addr × Obj)}
theorem find_use {f : Addr} {dc uc : Nat} {vs : List Value} {fs : List (Str × Int × Str)} 
    (B : Below A₀ base outer h₀) (F : Fr h₀ L s.heap m) (X : (K w.params).In h₀) (N : News h₀ L s.heap news) (T' : TopV mean mg mb h₀) (C : CallC w f dc uc vs news (FindPost w fs news)) (hk : cs.kind = .function) (hd : dp + dc < recursionLimit) (hu : un + uc < cLine)
    (ret : ∀ D xs c tl h' tk', Fr h₀ L h' m → News h₀ L h' (tl ++ news) → (D, listOf (List.toArray xs) c) ∈ tl → FAll w tl xs fs → Apart news tl → Q (.ref D) { s with heap := h', toks := tk' }) :
    wpAny (model PG w) (ktrTop dp un gd cn cs L a ccd cl outer) (call (.ref f) vs) Q E s := by
  refine C.use B F X N T' (fun p hp => hp) hk hd hu ?_
  intro r news' h' tk' F2 N2 z6_
  ((k_extra "V1"; obtain ⟨D, xs, c, tl, rfl, h1, h2, h3, h4⟩ := z6_) <;> k_extra "V2")
  exact ret D xs c tl h' tk' F2 (fun q hq => N2 q (h1 q hq)) h2 h3 h4
theorem plain_use {f : Addr} {dc uc : Nat} {vs : List Value} {d : Dat} 
    (B : Below A₀ base outer h₀) (F : Fr h₀ L s.heap m) (X : (K w.params).In h₀) (N : News h₀ L s.heap news) (T' : TopV mean mg mb h₀) (C : CallC w f dc uc vs news (PlainPost d news)) (hk : cs.kind = .function) (hd : dp + dc < recursionLimit) (hu : un + uc < cLine)
    (ret : ∀ r tl h' tk', Fr h₀ L h' m → News h₀ L h' (tl ++ news) → DatIn tl r d → Apart news tl → Q r { s with heap := h', toks := tk' }) :
    wpAny (model PG w) (ktrTop dp un gd cn cs L a ccd cl outer) (call (.ref f) vs) Q E s := by
  refine C.use B F X N T' (fun p hp => hp) hk hd hu ?_
  intro r news' h' tk' F2 N2 z6_
  ((k_extra "V1"; obtain ⟨tl, h1, h2, h3⟩ := z6_) <;> k_extra "V2")
  exact ret r tl h' tk' F2 (fun q hq => N2 q (h1 q hq)) h2 h3
theorem ftold_use {v : Value} {f : Str × Int × Str} 
    (B : Below A₀ base outer h₀) (F : Fr h₀ L s.heap m) (X : (K w.params).In h₀) (N : News h₀ L s.heap news) (T' : TopV mean mg mb h₀) (h : FIn w n0 v f) (hs : ∀ q ∈ n0, q ∈ news) (hk : cs.kind = .function) (hd : dp + 10 < recursionLimit) (hu : un + 60 < cLine)
    (ret : ∀ r tl h' tk', Fr h₀ L h' m → News h₀ L h' (tl ++ news) → DatIn tl r (rowD f) → Apart news tl → Q r { s with heap := h', toks := tk' }) :
    wpAny (model PG w) (ktrTop dp un gd cn cs L a ccd cl outer) (call (.ref 394) [v]) Q E s := plain_use B F X N T' (ftold_ok w (h.mono hs)) hk hd hu ret
theorem stold_use {S : Addr} {tab : List (Int × Int × PV)} {tr : List (Str × PV)} 
    (B : Below A₀ base outer h₀) (F : Fr h₀ L s.heap m) (X : (K w.params).In h₀) (N : News h₀ L s.heap news) (T' : TopV mean mg mb h₀) (hS : Shelved w n0 S tab tr) (hs : ∀ q ∈ n0, q ∈ news) (hok : TabOk tab) (hok2 : ToldOk 6 (.dict tr)) (hk : cs.kind = .function) (hd : dp + 160 < recursionLimit) (hu : un + 960 < cLine)
    (ret : ∀ r tl h' tk', Fr h₀ L h' m → News h₀ L h' (tl ++ news) → DatIn tl r (shelfD tab tr) → Apart news tl → Q r { s with heap := h', toks := tk' }) :
    wpAny (model PG w) (ktrTop dp un gd cn cs L a ccd cl outer) (call (.ref 367) [.ref S]) Q E s := plain_use B F X N T' (stold_ok w hS hs hok hok2) hk hd hu ret
end use
theorem eq_tupsD {prog : Program} {w : World} {A : Around} {E : Value → Shared → Prop} {s : Shared} {h₀ : Heap} {L : Addr} {news : List (Addr × Obj)} {Q : Value → Shared → Prop} (N : News h₀ L s.heap news) {k : Nat} {v1 v2 : Value} {ds : List Dat} (hd : DatDep k (.tuple ds)) (h1 : DatIn news v1 (.tuple ds)) (h2 : DatIn news v2 (.tuple ds)) (hu : A.units + k < cLine) (h : Q (.bool true) s) : wpAny (model prog w) A (compareOp .Eq v1 v2) Q E s := by
  k_extra "V0"
  cases h1 with
  | @tuple a vs n _ hm r =>
    k_extra "V2"
    k_extra "V0"
    cases h2 with
    | @tuple b vs' n' _ hm' r' => k_extra "V2"; exact eq_tups N hd (.tuple hm r) (.tuple hm' r') hu h
def refsAll (tab : List (Int × Int × PV)) (tr : List (Str × PV)) : List (Str × Int × Str) := (keysD tab).flatMap (fun k => refRows tab k (refsD (valOf tab k))) ++ refRows tab (-1) (refsD (.dict tr))
def lensAll (tab : List (Int × Int × PV)) : List (Str × Int × Str) := (keysD tab).flatMap (lenD tab)
structure ShOk (tab : List (Int × Int × PV)) (tr : List (Str × PV)) : Prop where
  told : TabOk tab
  toldT : ToldOk 6 (.dict tr)
  refs : ∀ k g d, tabAt tab k = some (g, d) → RefOk d
  refsT : RefOk (.dict tr)
  lens : LenOk tab
  root : FetchOk tab (getD tr "Root")
  typ : ∀ es, fetchD tab (getD tr "Root") = .dict es → FetchOk tab (getD es "Type")
  lr : (refsAll tab tr).length ≤ 900
  ll : (lensAll tab).length ≤ 900
theorem rootD_len (tab : List (Int × Int × PV)) (tr : List (Str × PV)) : (rootD tab tr).length ≤ 1 := by
  unfold rootD; split
  · split <;> simp
  · simp
section sr
variable {w : World} {S : Addr} {tab : List (Int × Int × PV)} {tr : List (Str × PV)} {n k0 : List (Addr × Obj)} {PQ : Value → List (Addr × Obj) → Prop}
  {dp un : Nat} {gd : Option (List Code)} {outer : List Env} {A₀ : Around} {base g h : Heap} {mean : ExcName → Option Value} {mg mb : Str → Option Value} {L : Addr} {s : Shared} {m : Str → Option Value} {tk : Nat}
noncomputable def SRW (w : World) (dp un : Nat) (gd : Option (List Code)) (outer : List Env) (g : Heap) (s : Shared) (L : Addr) (PQ : Value → List (Addr × Obj) → Prop) (k : Nat) (h : Heap) (tk : Nat) : Prop :=
  wpAny (model PG w) (ktrTop dp un gd "_law_shelf_right" F484.1.2.2 L 484 (.ref 483) [] outer) (execs (F484.1.2.1.drop k) (envOf "_law_shelf_right" F484.1.2.2 L 484 (.ref 483))) (RetP g L s PQ) (fun _ _ => False) { s with heap := h, toks := tk }
def wrongD (way : Int) : List (Str × Int × Str) := if way = 0 ∨ way = 5 then [fnd "root" (-1) "no dict of the document"] else [fnd "root" (-1) "its Type is not Catalog"]
theorem sr15 {way : Int} {tw : Tok} {W : Addr} {bv : Value} (hSn : Shelved w n S tab tr) (ok : ShOk tab tr) (m1 : m "shelf" = some (.ref S)) (m2 : m "way" = some (.int way tw)) (m3 : m "wrong" = some (.ref W)) (m4 : m "before" = some bv)
    (hW : DatIn n (.ref W) (.list ((wrongD way).map rowD))) (hbv : DatIn n bv (shelfD tab tr)) (hr : rootD tab tr = if way = 1 ∨ way = 6 then [] else wrongD way) (hs0 : ∀ q ∈ k0, q ∈ n) (hPQ : PQ (.bool true) k0)
    (B : Below A₀ base outer g) (F : Fr g L h m) (X : (K w.params).In g) (N : News g L h n) (T' : TopV mean mg mb g) (hd : dp + 290 < recursionLimit) (hu : un + 1500 < cLine) : SRW w dp un gd outer g s L PQ 15 h tk := by
  (k_with "GO" =>
  have hTO := ok.told
  have hTR := ok.toldT
  have hrl := rootD_len tab tr
  ((k_extra "V1"; obtain ⟨dsh, hde, hdep⟩ := shelfD_dep tab tr) <;> k_extra "V2")
  ((k_extra "V1"; obtain ⟨T, TR, oT, kvs, ⟨sd, tS, tS', nS, hS1, hS2'⟩, h2, lo, hT, htab, h6, h7⟩ := id hSn) <;> k_extra "V2")
  unfold SRW
  dsimp only [F484, List.drop]
  repeat' (k_extra "zS"; (fail_if_success (with_reducible show LCg.CompSrc _ _ _ _ _ _ _ _ _ _ _ _ _ _)); first | k_extra "zP" | k_extra "zN" | k_extra "STOLDR" | ((with_reducible show wpAny _ _ (call (Value.ref 408) _) _ _ _); (show wpAny _ _ (call (Value.ref 408) [_]) _ _ _); refine find_use (by k_asm) (by k_asm) (by k_asm) (by k_asm) (by k_asm) (chkroot_ok w hSn (by k_extra "zU") ok.root ok.typ) rfl (by k_extra "ROOM") (by k_extra "UNITS") ?_; intro FD fvs fc1 tlE hE tkE FE NE hFm hFa hEa; (try k_sweep)) | k_extra "zQ")
  have hFl := hFa.length
  refine LCg.CompSrc.ledger (by rfl) (by k_asm) (by k_asm) (by k_mem) (by rw [sizeLine_eq, List.size_toArray]; omega) ?_
  intro g1
  refine comp_pure (fun i tl ys => DatAll tl ys (((rootD tab tr).take i).map rowD)) .nil ?_ ?_
  · intro i x ys tl hi hx hy hta hJ I oI C oC D m2 h1 tk1 E' hNs hx2 F1 N1 o1 o2 ne
    ((k_extra "V1"; obtain ⟨f, hf, hfin⟩ := fall_at hFa (by simpa using hx)) <;> k_extra "V2")
    ((k_extra "V1"; obtain ⟨fa, fd, ft, fu, ft', fu', ft'', fu'', fc, rfl, hm1, hm2⟩ := id hfin) <;> k_extra "V2")
    ((k_extra "V1"; obtain ⟨ne1, ne2, ne3⟩ := ne) <;> k_extra "V2")
    repeat' (k_extra "zS"; first | k_extra "zP" | k_extra "FTOLDR" | k_extra "zQ")
    refine cpost_pure tlF FF NF (LCg.Off3.of fun q hq => ⟨hF3.ne (d := I) (by k_mem) q hq, hF3.ne (d := C) (by k_mem) q hq, hF3.ne (d := D) (by k_mem) q hq⟩) o1 o2 (fun q hq => hF3 q (by k_mem)) hta ?e6 ?e7
    case e6 => lcg_src
    case e7 => show DatAll _ _ _; rw [List.take_add_one, hf, Option.toList_some, List.map_append]; exact datAll_snoc hJ (hF2.mono fun _ hq => List.mem_append_left _ hq)
  · intro tl ys hy hta hJ
    rw [List.size_toArray, hFl, List.take_length] at hJ
    have hle : ys.length ≤ 1 := by have := datAll_length hJ; rw [List.length_map] at this; omega
    repeat' (k_extra "zS"; (fail_if_success (with_reducible show wpAny _ _ (compareOp CmpOp.Eq (Value.ref D') _) _ _ _)); first | k_extra "zP" | k_extra "zN" | k_extra "zQ")
    · rename (_ = true) => hc
      have hw : way = 1 ∨ way = 6 := by simp at hc; omega
      have hJ2 : DatAll tl ys (([] : List (Str × Int × Str)).map rowD) := by rw [hr, if_pos hw] at hJ; exact hJ
      refine eq_lists (k := 2) (ds := ([] : List (Str × Int × Str)).map rowD) (by k_asm) (rows_dep _) (.list (by k_mem) (hJ2.mono fun q hq => by k_mem)) (.list (by k_mem) .nil) (by k_extra "UNITS") ?_
      repeat' (k_extra "zS"; first | k_extra "zP" | k_extra "zN" | k_extra "STOLDR" | ((with_reducible show wpAny _ _ (compareOp CmpOp.Eq _ _) _ _ _); refine eq_tupsD (by k_asm) hdep (hde ▸ hS2.mono fun q hq => by k_mem) (hde ▸ hbv.mono fun q hq => by k_mem) (by k_extra "UNITS") ?_) | k_extra "zQ")
      rename (News _ _ _ _) => N9
      exact RetP.intro (by assumption) (fun q hq => N9 q (by have := hs0 q hq; k_mem)) hPQ
    · rename (_ = false) => hc
      have hw : ¬ (way = 1 ∨ way = 6) := by simp at hc; omega
      have hJ2 : DatAll tl ys ((wrongD way).map rowD) := by rw [hr, if_neg hw] at hJ; exact hJ
      repeat' (k_extra "zS"; first | k_extra "zP" | k_extra "zN" | k_extra "STOLDR" | ((with_reducible show wpAny _ _ (compareOp CmpOp.Eq (Value.ref D') (Value.ref W)) _ _ _); refine eq_lists (k := 2) (ds := (wrongD way).map rowD) (by k_asm) (rows_dep _) (.list (by k_mem) (hJ2.mono fun q hq => by k_mem)) (hW.mono fun q hq => by k_mem) (by k_extra "UNITS") ?_) | ((with_reducible show wpAny _ _ (compareOp CmpOp.Eq _ _) _ _ _); refine eq_tupsD (by k_asm) hdep (hde ▸ hS2.mono fun q hq => by k_mem) (hde ▸ hbv.mono fun q hq => by k_mem) (by k_extra "UNITS") ?_) | k_extra "zQ")
      rename (News _ _ _ _) => N9
      exact RetP.intro (by assumption) (fun q hq => N9 q (by have := hs0 q hq; k_mem)) hPQ
  )
  k_extra "GG"
theorem sr14 {way : Int} {tw : Tok} {bv : Value} (hSn : Shelved w n S tab tr) (ok : ShOk tab tr) (m1 : m "shelf" = some (.ref S)) (m2 : m "way" = some (.int way tw)) (m4 : m "before" = some bv)
    (hbv : DatIn n bv (shelfD tab tr)) (hr : rootD tab tr = if way = 1 ∨ way = 6 then [] else wrongD way) (hs0 : ∀ q ∈ k0, q ∈ n) (hPQ : PQ (.bool true) k0)
    (B : Below A₀ base outer g) (F : Fr g L h m) (X : (K w.params).In g) (N : News g L h n) (T' : TopV mean mg mb g) (hd : dp + 290 < recursionLimit) (hu : un + 1500 < cLine) : SRW w dp un gd outer g s L PQ 14 h tk := by
  (k_with "GO" =>
  unfold SRW
  dsimp only [F484, List.drop]
  repeat' (k_extra "zS"; (fail_if_success (with_reducible show wpAny _ _ (execs [_] _) _ _ _)); first | k_extra "zP" | k_extra "zN" | k_extra "zQ")
  · rename (_ = true) => hc
    have hw : wrongD way = [fnd "root" (-1) "no dict of the document"] := if_pos (by simp at hc; omega)
    rename (Fr _ _ _ _) => F9; rename (News _ _ _ _) => N9
    exact sr15 (hSn.mono (by k_extra "zU")) ok (by k_extra "NX") (by k_extra "NX") (by k_extra "NX") (by k_extra "NX") (by rw [hw]; exact .list (by k_mem) (.cons (.tuple (by k_mem) (.cons (.str _ _) (.cons (.int _ _) (.cons (.str _ _) .nil)))) .nil)) (hbv.mono (by k_extra "zU")) hr (fun q hq => by have := hs0 q hq; k_mem) hPQ B F9 X N9 T' hd hu
  · rename (_ = false) => hc
    have hw : wrongD way = [fnd "root" (-1) "its Type is not Catalog"] := if_neg (by simp at hc; omega)
    rename (Fr _ _ _ _) => F9; rename (News _ _ _ _) => N9
    exact sr15 (hSn.mono (by k_extra "zU")) ok (by k_extra "NX") (by k_extra "NX") (by k_extra "NX") (by k_extra "NX") (by rw [hw]; exact .list (by k_mem) (.cons (.tuple (by k_mem) (.cons (.str _ _) (.cons (.int _ _) (.cons (.str _ _) .nil)))) .nil)) (hbv.mono (by k_extra "zU")) hr (fun q hq => by have := hs0 q hq; k_mem) hPQ B F9 X N9 T' hd hu
  )
  k_extra "GG"
theorem sr13 {way : Int} {tw : Tok} {bv : Value} {D : Addr} (hSn : Shelved w n S tab tr) (ok : ShOk tab tr) (m1 : m "shelf" = some (.ref S)) (m2 : m "way" = some (.int way tw)) (m4 : m "before" = some bv) (m5 : m "lengths" = some (.ref D))
    (hD : DatIn n (.ref D) (.list ((lensAll tab).map rowD))) (hbv : DatIn n bv (shelfD tab tr)) (hr : rootD tab tr = if way = 1 ∨ way = 6 then [] else wrongD way) (hs0 : ∀ q ∈ k0, q ∈ n) (hPQ : PQ (.bool true) k0)
    (B : Below A₀ base outer g) (F : Fr g L h m) (X : (K w.params).In g) (N : News g L h n) (T' : TopV mean mg mb g) (hd : dp + 290 < recursionLimit) (hu : un + 1500 < cLine) : SRW w dp un gd outer g s L PQ 13 h tk := by
  (k_with "GO" =>
  have hll := ok.ll
  unfold SRW
  dsimp only [F484, List.drop]
  repeat' (k_extra "zS"; (fail_if_success (with_reducible show LCg.CompSrc _ _ _ _ _ _ _ _ _ _ _ _ _ _)); first | k_extra "zP" | k_extra "zN" | ((with_reducible show wpAny _ _ (call (Value.ref 429) _) _ _ _); (show wpAny _ _ (call (Value.ref 429) [_]) _ _ _); refine find_use (by k_asm) (by k_asm) (by k_asm) (by k_asm) (by k_asm) (lengths_ok w hSn (by k_extra "zU") ok.lens) rfl (by k_extra "ROOM") (by k_extra "UNITS") ?_; intro FD fvs fc1 tlE hE tkE FE NE hFm hFa hEa; (try k_sweep)) | k_extra "zQ")
  change FAll w tlE fvs (lensAll tab) at hFa
  have hFl := hFa.length
  refine LCg.CompSrc.ledger (by rfl) (by k_asm) (by k_asm) (by k_mem) (by rw [sizeLine_eq, List.size_toArray]; omega) ?_
  intro g1
  refine comp_pure (fun i tl ys => DatAll tl ys (((lensAll tab).take i).map rowD)) .nil ?_ ?_
  · intro i x ys tl hi hx hy hta hJ I oI C oC D m2 h1 tk1 E' hNs hx2 F1 N1 o1 o2 ne
    ((k_extra "V1"; obtain ⟨f, hf, hfin⟩ := fall_at hFa (by simpa using hx)) <;> k_extra "V2")
    ((k_extra "V1"; obtain ⟨fa, fd, ft, fu, ft', fu', ft'', fu'', fc, rfl, hm1, hm2⟩ := id hfin) <;> k_extra "V2")
    ((k_extra "V1"; obtain ⟨ne1, ne2, ne3⟩ := ne) <;> k_extra "V2")
    repeat' (k_extra "zS"; first | k_extra "zP" | k_extra "FTOLDR" | k_extra "zQ")
    refine cpost_pure tlF FF NF (LCg.Off3.of fun q hq => ⟨hF3.ne (d := I) (by k_mem) q hq, hF3.ne (d := C) (by k_mem) q hq, hF3.ne (d := D) (by k_mem) q hq⟩) o1 o2 (fun q hq => hF3 q (by k_mem)) hta ?e6 ?e7
    case e6 => lcg_src
    case e7 => show DatAll _ _ _; rw [List.take_add_one, hf, Option.toList_some, List.map_append]; exact datAll_snoc hJ (hF2.mono fun _ hq => List.mem_append_left _ hq)
  · intro tl ys hy hta hJ
    rw [List.size_toArray, hFl, List.take_length] at hJ
    repeat' (k_extra "zS"; (fail_if_success (with_reducible show wpAny _ _ (execs [_, _] _) _ _ _)); first | k_extra "zP" | k_extra "zN" | ((with_reducible show wpAny _ _ (compareOp CmpOp.NotEq (Value.ref D') (Value.ref D)) _ _ _); refine ne_lists (k := 2) (ds := (lensAll tab).map rowD) (by k_asm) (rows_dep _) (.list (by k_mem) (hJ.mono fun q hq => by k_mem)) (hD.mono fun q hq => by k_mem) (by k_extra "UNITS") ?_) | k_extra "zQ")
    rename (Fr _ _ _ _) => F9; rename (News _ _ _ _) => N9
    exact sr14 (hSn.mono (by k_extra "zU")) ok (by k_extra "NX") (by k_extra "NX") (by k_extra "NX") (hbv.mono (by k_extra "zU")) hr (fun q hq => by have := hs0 q hq; k_mem) hPQ B F9 X N9 T' hd hu
  )
  k_extra "GG"
theorem sr12 {way : Int} {tw : Tok} {bv : Value} {D W : Addr} (hSn : Shelved w n S tab tr) (ok : ShOk tab tr) (m1 : m "shelf" = some (.ref S)) (m2 : m "way" = some (.int way tw)) (m4 : m "before" = some bv) (m5 : m "lengths" = some (.ref D)) (m6 : m "due" = some (.ref W))
    (hW : DatIn n (.ref W) (.list ((refsAll tab tr).map rowD))) (hD : DatIn n (.ref D) (.list ((lensAll tab).map rowD))) (hbv : DatIn n bv (shelfD tab tr)) (hr : rootD tab tr = if way = 1 ∨ way = 6 then [] else wrongD way) (hs0 : ∀ q ∈ k0, q ∈ n) (hPQ : PQ (.bool true) k0)
    (B : Below A₀ base outer g) (F : Fr g L h m) (X : (K w.params).In g) (N : News g L h n) (T' : TopV mean mg mb g) (hd : dp + 290 < recursionLimit) (hu : un + 1500 < cLine) : SRW w dp un gd outer g s L PQ 12 h tk := by
  (k_with "GO" =>
  have hll := ok.lr
  unfold SRW
  dsimp only [F484, List.drop]
  repeat' (k_extra "zS"; (fail_if_success (with_reducible show LCg.CompSrc _ _ _ _ _ _ _ _ _ _ _ _ _ _)); first | k_extra "zP" | k_extra "zN" | ((with_reducible show wpAny _ _ (call (Value.ref 422) _) _ _ _); (show wpAny _ _ (call (Value.ref 422) [_]) _ _ _); refine find_use (by k_asm) (by k_asm) (by k_asm) (by k_asm) (by k_asm) (chkrefs_ok w hSn (by k_extra "zU") ok.refs ok.refsT) rfl (by k_extra "ROOM") (by k_extra "UNITS") ?_; intro FD fvs fc1 tlE hE tkE FE NE hFm hFa hEa; (try k_sweep)) | k_extra "zQ")
  change FAll w tlE fvs (refsAll tab tr) at hFa
  have hFl := hFa.length
  refine LCg.CompSrc.ledger (by rfl) (by k_asm) (by k_asm) (by k_mem) (by rw [sizeLine_eq, List.size_toArray]; omega) ?_
  intro g1
  refine comp_pure (fun i tl ys => DatAll tl ys (((refsAll tab tr).take i).map rowD)) .nil ?_ ?_
  · intro i x ys tl hi hx hy hta hJ I oI C oC D m2 h1 tk1 E' hNs hx2 F1 N1 o1 o2 ne
    ((k_extra "V1"; obtain ⟨f, hf, hfin⟩ := fall_at hFa (by simpa using hx)) <;> k_extra "V2")
    ((k_extra "V1"; obtain ⟨fa, fd, ft, fu, ft', fu', ft'', fu'', fc, rfl, hm1, hm2⟩ := id hfin) <;> k_extra "V2")
    ((k_extra "V1"; obtain ⟨ne1, ne2, ne3⟩ := ne) <;> k_extra "V2")
    repeat' (k_extra "zS"; first | k_extra "zP" | k_extra "FTOLDR" | k_extra "zQ")
    refine cpost_pure tlF FF NF (LCg.Off3.of fun q hq => ⟨hF3.ne (d := I) (by k_mem) q hq, hF3.ne (d := C) (by k_mem) q hq, hF3.ne (d := D) (by k_mem) q hq⟩) o1 o2 (fun q hq => hF3 q (by k_mem)) hta ?e6 ?e7
    case e6 => lcg_src
    case e7 => show DatAll _ _ _; rw [List.take_add_one, hf, Option.toList_some, List.map_append]; exact datAll_snoc hJ (hF2.mono fun _ hq => List.mem_append_left _ hq)
  · intro tl ys hy hta hJ
    rw [List.size_toArray, hFl, List.take_length] at hJ
    repeat' (k_extra "zS"; (fail_if_success (with_reducible show wpAny _ _ (execs [_, _, _] _) _ _ _)); first | k_extra "zP" | k_extra "zN" | ((with_reducible show wpAny _ _ (compareOp CmpOp.NotEq (Value.ref D') (Value.ref W)) _ _ _); refine ne_lists (k := 2) (ds := (refsAll tab tr).map rowD) (by k_asm) (rows_dep _) (.list (by k_mem) (hJ.mono fun q hq => by k_mem)) (hW.mono fun q hq => by k_mem) (by k_extra "UNITS") ?_) | k_extra "zQ")
    rename (Fr _ _ _ _) => F9; rename (News _ _ _ _) => N9
    exact sr13 (hSn.mono (by k_extra "zU")) ok (by k_extra "NX") (by k_extra "NX") (by k_extra "NX") (by k_extra "NX") (hD.mono (by k_extra "zU")) (hbv.mono (by k_extra "zU")) hr (fun q hq => by have := hs0 q hq; k_mem) hPQ B F9 X N9 T' hd hu
  )
  k_extra "GG"
end sr
theorem updF_upd {d : Addr} {o : Obj} {l : List (Addr × Obj)} {g : Obj → List (Addr × Obj)} (U : UpdF d o l g) (o' : Obj) : Upd d o o' l (g o') := by
  ((k_extra "V1"; obtain ⟨pre, post, rfl, hg, a, b⟩ := U.split) <;> k_extra "V2")
  rw [hg]
  clear hg U
  induction pre with
  | nil => exact .head b
  | cons x pre ih => exact .tail (a x List.mem_cons_self) (ih fun p hp => a p (List.mem_cons_of_mem _ hp))
theorem ext_list {prog : Program} {w : World} {A : Around} {E : Value → Shared → Prop} {s : Shared} {h₀ : Heap} {L D b : Addr} {m : Str → Option Value} {news : List (Addr × Obj)} {gg : Obj → List (Addr × Obj)} {lv ys : List Value} {nl nb : Nat} {Q : Value → Shared → Prop} (F : Fr h₀ L s.heap m) (N : News h₀ L s.heap news) (hb : (b, listOf ys.toArray nb) ∈ news) (U : UpdF D (listOf lv.toArray nl) news gg) (hsz : lv.length ≤ 1000) (hsy : ys.length ≤ 1000)
    (h : ∀ c' h', Fr h₀ L h' m → News h₀ L h' (gg (listOf (lv ++ ys).toArray c')) → Q .none { s with heap := h' }) : wpAny (model prog w) A (call (.builtin "list.extend") [.ref D, .ref b]) Q E s := by
  have hno : ¬(!lv.toArray.isEmpty && Builtin.List.listTooLong (lv.toArray.size + ys.toArray.size)) = true := by
    intro e
    have e2 := (Bool.and_eq_true_iff.mp e).2
    simp only [Builtin.List.listTooLong, List.size_toArray, decide_eq_true_eq, sizeLine_eq] at e2
    omega
  cases ys with
  | nil => exact kxn_extend F N hb rfl (updF_upd U _) hno (by rw [sizeLine_eq]; simp; omega) (by rw [sizeLine_eq]; simp; omega) fun h' F' N' => h nl h' F' (by simpa using N')
  | cons y ys => exact kl_extend F N hb (l := lv ++ y :: ys) (by simp) (by simp) (updF_upd U _) hno (by rw [sizeLine_eq]; simp; omega) (by rw [sizeLine_eq]; simp at hsy ⊢; omega) fun h' F' N' => h (nl + 1) h' F' N'
theorem PairsAt.mono {n n' : List (Addr × Obj)} {vs : List Value} {ps : List (Int × Int)} (h : PairsAt n vs ps) (hm : ∀ q ∈ n, q ∈ n') : PairsAt n' vs ps := by
  induction h with
  | nil => exact .nil
  | cons a _ ih => exact .cons (hm _ a) ih
inductive HeldAt (news : List (Addr × Obj)) : List Value → List (Int × List (Int × Int)) → Prop
  | nil : HeldAt news [] []
  | cons {t l : Addr} {k : Int} {u : Tok} {n np : Nat} {vs hv : List Value} {ps : List (Int × Int)} {hs : List (Int × List (Int × Int))} : (t, ({ cls := .type "tuple", data := .seq #[.int k u, .ref l] n } : Obj)) ∈ news → (l, listOf (List.toArray vs) np) ∈ news → PairsAt news vs ps → PairsOk ps → HeldAt news hv hs → HeldAt news (.ref t :: hv) ((k, ps) :: hs)
theorem HeldAt.mono {n n' : List (Addr × Obj)} {hv : List Value} {hs : List (Int × List (Int × Int))} (h : HeldAt n hv hs) (hm : ∀ q ∈ n, q ∈ n') : HeldAt n' hv hs := by
  induction h with
  | nil => exact .nil
  | cons a b c d _ ih => exact .cons (hm _ a) (hm _ b) (PairsAt.mono c hm) d ih
theorem HeldAt.at {n : List (Addr × Obj)} {hv : List Value} {hs : List (Int × List (Int × Int))} (h : HeldAt n hv hs) : ∀ {i : Nat} {v : Value}, hv[i]? = some v → ∃ t l k u c np vs ps, v = .ref t ∧ (t, ({ cls := .type "tuple", data := .seq #[.int k u, .ref l] c } : Obj)) ∈ n ∧ (l, listOf (List.toArray vs) np) ∈ n ∧ PairsAt n vs ps ∧ PairsOk ps ∧ hs[i]? = some (k, ps) := by
  induction h with
  | nil => intro i v e; simp at e
  | cons a b c d _ ih =>
    intro i v e
    ((k_extra "V1"; rcases i with _ | i) <;> k_extra "V2")
    · simp only [List.getElem?_cons_zero, Option.some.injEq] at e; exact ⟨_, _, _, _, _, _, _, _, e.symm, a, b, c, d, rfl⟩
    · simp only [List.getElem?_cons_succ] at e ⊢; exact ih e
theorem HeldAt.length {n : List (Addr × Obj)} {hv : List Value} {hs : List (Int × List (Int × Int))} (h : HeldAt n hv hs) : hv.length = hs.length := by
  induction h with
  | nil => rfl
  | cons _ _ _ _ _ ih => simp [ih]
def missAll (tab : List (Int × Int × PV)) (held : List (Int × List (Int × Int))) : List (Str × Int × Str) := held.flatMap fun q => missD tab q.1 q.2
def dueT (way : Int) : List (Str × Int × Str) := if way = 0 then [fnd "reference" (-1) "to no object: 33 0"] else []
theorem dlist_inv {n : List (Addr × Obj)} {v : Value} {ds : List Dat} (h : DatIn n v (.list ds)) : ∃ l vs c, v = .ref l ∧ (l, listOf (List.toArray vs) c) ∈ n ∧ DatAll n vs ds := by
  k_extra "V0"
  cases h with
  | list hm r => k_extra "V2"; exact ⟨_, _, _, rfl, hm, r⟩
section sr
variable {w : World} {S : Addr} {tab : List (Int × Int × PV)} {tr : List (Str × PV)} {n k0 : List (Addr × Obj)} {PQ : Value → List (Addr × Obj) → Prop} {held : List (Int × List (Int × Int))} {way : Int} {tw : Tok} {bv : Value} {D E H : Addr}
  {dp un : Nat} {gd : Option (List Code)} {outer : List Env} {A₀ : Around} {base g h : Heap} {mean : ExcName → Option Value} {mg mb : Str → Option Value} {L : Addr} {s : Shared} {m : Str → Option Value} {tk : Nat}
theorem sr11 {dv : List Value} {nd : Nat} {tl : List (Addr × Obj)} (hSn : Shelved w n S tab tr) (ok : ShOk tab tr) (m1 : m "shelf" = some (.ref S)) (m2 : m "way" = some (.int way tw)) (m4 : m "before" = some bv) (m5 : m "lengths" = some (.ref D)) (m6 : m "due" = some (.ref E))
    (hD : DatIn n (.ref D) (.list ((lensAll tab).map rowD))) (hbv : DatIn n bv (shelfD tab tr)) (hr : rootD tab tr = if way = 1 ∨ way = 6 then [] else wrongD way) (hrefs : refsAll tab tr = missAll tab held ++ dueT way) (hs0 : ∀ q ∈ k0, q ∈ n) (hPQ : PQ (.bool true) k0)
    (hE : DatAll tl dv ((missAll tab held).map rowD)) (hlen : dv.length ≤ 900) (o1 : ∀ q ∈ tl, q.1 ≠ E) (o2 : ∀ q ∈ n, q.1 ≠ E)
    (B : Below A₀ base outer g) (F : Fr g L h m) (X : (K w.params).In g) (N : News g L h ((E, listOf (List.toArray dv) nd) :: (tl ++ n))) (T' : TopV mean mg mb g) (hd : dp + 290 < recursionLimit) (hu : un + 1500 < cLine) : SRW w dp un gd outer g s L PQ 11 h tk := by
  (k_with "GO" =>
  unfold SRW
  dsimp only [F484, List.drop]
  repeat' (k_extra "zS"; (fail_if_success (with_reducible show wpAny _ _ (execs [_, _, _, _] _) _ _ _)); first | k_extra "zP" | k_extra "zN" | k_extra "zQ")
  · have hdue : dueT way = [fnd "reference" (-1) "to no object: 33 0"] := if_pos (by omega)
    rename (Fr _ _ _ _) => F9; rename (News _ _ _ _) => N9; simp only [List.push_toArray] at N9
    exact sr12 (hSn.mono (by k_extra "zU")) ok (by k_extra "NX") (by k_extra "NX") (by k_extra "NX") (by k_extra "NX") (by k_extra "NX") (by rw [hrefs, hdue, List.map_append]; exact .list (by k_mem) ((hE.mono fun q hq => by k_mem).append (.cons (.tuple (by k_mem) (.cons (.str _ _) (.cons (.int _ _) (.cons (.str _ _) .nil)))) .nil))) (hD.mono (by k_extra "zU")) (hbv.mono (by k_extra "zU")) hr (fun q hq => by have := hs0 q hq; k_mem) hPQ B F9 X N9 T' hd hu
  · have hdue : dueT way = [] := if_neg (by omega)
    rename (Fr _ _ _ _) => F9; rename (News _ _ _ _) => N9
    exact sr12 (hSn.mono (by k_extra "zU")) ok (by k_extra "NX") (by k_extra "NX") (by k_extra "NX") (by k_extra "NX") (by k_extra "NX") (by rw [hrefs, hdue, List.append_nil]; exact .list (by k_mem) (hE.mono fun q hq => by k_mem)) (hD.mono (by k_extra "zU")) (hbv.mono (by k_extra "zU")) hr (fun q hq => by have := hs0 q hq; k_mem) hPQ B F9 X N9 T' hd hu
  )
  k_extra "GG"
theorem missD_len (tab : List (Int × Int × PV)) (place : Int) {ps : List (Int × Int)} (h : PairsOk ps) : (missD tab place ps).length ≤ 3 := by
  have h1 := miss_len tab place ps []
  have h2 := h.1
  simp only [List.length_nil, Nat.zero_add] at h1
  unfold missD
  omega
inductive SR10St (S D E : Addr) (way : Int) (tw : Tok) (bv : Value) (n : List (Addr × Obj)) (tab : List (Int × Int × PV)) (hs : List (Int × List (Int × Int))) (k : Nat) (m : Str → Option Value) (nn : List (Addr × Obj)) : Prop
  | mk : ∀ dv nd tl, m "shelf" = some (.ref S) → m "way" = some (.int way tw) → m "before" = some bv → m "lengths" = some (.ref D) → m "due" = some (.ref E) → nn = (E, listOf (List.toArray dv) nd) :: (tl ++ n) → DatAll tl dv ((missAll tab hs).map rowD) → dv.length ≤ 3 * k → (∀ q ∈ tl, q.1 ≠ E) → SR10St S D E way tw bv n tab hs k m nn
theorem sr10 {hv : List Value} {hn : Nat} (hSn : Shelved w n S tab tr) (ok : ShOk tab tr) (m1 : m "shelf" = some (.ref S)) (m2 : m "way" = some (.int way tw)) (m4 : m "before" = some bv) (m5 : m "lengths" = some (.ref D)) (m6 : m "due" = some (.ref E))
    (hD : DatIn n (.ref D) (.list ((lensAll tab).map rowD))) (hbv : DatIn n bv (shelfD tab tr)) (hr : rootD tab tr = if way = 1 ∨ way = 6 then [] else wrongD way) (hrefs : refsAll tab tr = missAll tab held ++ dueT way) (hs0 : ∀ q ∈ k0, q ∈ n) (hPQ : PQ (.bool true) k0) (m7 : m "held" = some (.ref H)) (hH : (H, listOf (List.toArray hv) hn) ∈ n) (hHv : HeldAt n hv held) (hl5 : held.length ≤ 5) (o2 : ∀ q ∈ n, q.1 ≠ E)
    (B : Below A₀ base outer g) (F : Fr g L h m) (X : (K w.params).In g) (N : News g L h ((E, listOf (List.toArray []) 0) :: n)) (T' : TopV mean mg mb g) (hd : dp + 290 < recursionLimit) (hu : un + 1500 < cLine) : SRW w dp un gd outer g s L PQ 10 h tk := by
  (k_with "GO" =>
  have hvl := hHv.length
  unfold SRW
  dsimp only [F484, List.drop]
  repeat' (k_extra "zS"; (fail_if_success (with_reducible show wpAny _ _ (pyIter (Value.ref _)) _ _ _)); first | k_extra "zP" | ((with_reducible show wpAny _ _ (exec (Stmt.For _ _ _ _ _) _) _ _ _); (rename Fr _ _ _ _ => lF9); (with_unfolding_all refine' For_turns lF9 ?_)) | k_extra "zN" | k_extra "zQ")
  refine iter_listTurns (n := hn) (vs := hv) (lo := listOf hv.toArray hn) (by rfl) (by assumption) (by assumption) (by k_mem) rfl rfl (fun I hI => ?_)
  have lI : ∀ q ∈ n, q.1 ≠ I := fun q hq => Nat.ne_of_lt (hI q (by k_mem))
  have lE : E ≠ I := Nat.ne_of_lt (hI (E, _) (by k_mem))
  refine items_loop (vs := hv) (fun i m' n' => SR10St S D E way tw bv n tab (held.take i) i m' n' ∧ ∀ q ∈ n', q.1 ≠ I) ⟨⟨[], 0, [], by k_extra "NX", by k_extra "NX", by k_extra "NX", by k_extra "NX", by k_extra "NX", rfl, .nil, by simp, by simp⟩, List.forall_mem_cons.mpr ⟨lE, lI⟩⟩ ?_ ?_
  · intro i v m₁ n₁ hvi z5_ it h1 tk1 F1 N1 J' hJ'
    ((k_extra "V1"; obtain ⟨⟨dv, nd, tl, g1, g2, g3, g4, g5, rfl, hE, hdl, o1⟩, oI⟩ := z5_) <;> k_extra "V2")
    ((k_extra "V1"; obtain ⟨t, l, k, u, c, np, vs, ps, rfl, ht, hl, hps, hpo, hki⟩ := hHv.at hvi) <;> k_extra "V2")
    have hil : i < 5 := by have := (List.getElem?_eq_some_iff.mp hki).1; omega
    have oI2 : ∀ q ∈ tl, q.1 ≠ I := fun q hq => oI q (by k_mem)
    have hml := missD_len tab k hpo
    have hstep : missAll tab (held.take (i + 1)) = missAll tab (held.take i) ++ missD tab k ps := by unfold missAll; rw [List.take_add_one, hki, Option.toList_some, List.flatMap_append]; simp
    repeat' (k_extra "zS"; (fail_if_success (with_reducible show UnrPostW _ _ _ _ _ _ _ _)); (fail_if_success (with_reducible show UnrEndW _ _ _ _ _ _)); first | k_extra "zP" | k_extra "zN" | ((with_reducible show wpAny _ _ (call (Value.ref 479) _) _ _ _); (show wpAny _ _ (call (Value.ref 479) [_, _, _]) _ _ _); refine plain_use (by k_asm) (by k_asm) (by k_asm) (by k_asm) (by k_asm) (missing_ok w hSn (by k_extra "zU") (by k_mem) (hps.mono fun q hq => by k_mem) hpo) rfl (by k_extra "ROOM") (by k_extra "UNITS") ?_; intro rM tlM hM tkM FM NM hM2 hM3; obtain ⟨lM, vM, nM, rfl, hM4, hM5⟩ := dlist_inv hM2; (have oM : ∀ q ∈ tlM, q.1 ≠ E := hM3.ne (by k_mem)); (have oM2 : ∀ q ∈ tlM, q.1 ≠ I := hM3.ne (by k_mem)); (have hMl := datAll_length hM5); rw [List.length_map] at hMl; (try k_sweep)) | ((with_reducible show wpAny _ _ (call (Value.builtin "list.extend") [Value.ref _, Value.ref _]) _ _ _); refine' ext_list ?xF ?xN ?xb ?xU ?xz ?xy ?_; (case xF => k_asm); (case xN => k_asm); (case xb => k_mem); (case xU => k_updF); (case xz => omega); (case xy => omega); intro cX hX FX NX; (try dsimp only at NX); (try k_sweep)) | k_extra "zQ")
    rename (Fr _ _ _ _) => F9; rename (News _ _ _ _) => N9
    refine unrW_spl1 (c := (E, _)) (fr := tl ++ n) F9 N9 (by repeat (first | exact splC2 | apply SplC.cons | apply SplC.app)) ?off (hJ' _ _ ?keep ⟨?st, ?off2⟩)
    case off => k_all
    case keep => exact ⟨by k_mem, trivial⟩
    case off2 => k_all
    case st => exact ⟨dv ++ vM, cX, tlM ++ tl, by k_extra "NX", by k_extra "NX", by k_extra "NX", by k_extra "NX", by k_extra "NX", by simp, by rw [hstep, List.map_append]; exact (hE.mono fun q hq => by k_mem).append (hM5.mono fun q hq => by k_mem), by rw [List.length_append]; omega, by k_all⟩
  · intro m₁ n₁ h1 tk1 z4_ F1 N1
    ((k_extra "V1"; obtain ⟨⟨dv, nd, tl, g1, g2, g3, g4, g5, rfl, hE, hdl, o1⟩, oI⟩ := z4_) <;> k_extra "V2")
    rw [hvl, List.take_length] at hE
    exact sr11 hSn ok g1 g2 g3 g4 g5 hD hbv hr hrefs hs0 hPQ hE (by omega) o1 o2 B F1 X N1 T' hd hu
  )
  k_extra "GG"
theorem sr8 {hv : List Value} {hn : Nat} (hSn : Shelved w n S tab tr) (ok : ShOk tab tr) (m1 : m "shelf" = some (.ref S)) (m2 : m "way" = some (.int way tw)) (m5 : m "lengths" = some (.ref D)) (m7 : m "held" = some (.ref H))
    (hD : DatIn n (.ref D) (.list ((lensAll tab).map rowD))) (hr : rootD tab tr = if way = 1 ∨ way = 6 then [] else wrongD way) (hrefs : refsAll tab tr = missAll tab held ++ dueT way) (hs0 : ∀ q ∈ k0, q ∈ n) (hPQ : PQ (.bool true) k0)
    (hH : (H, listOf (List.toArray hv) hn) ∈ n) (hHv : HeldAt n hv held) (hl5 : held.length ≤ 5)
    (B : Below A₀ base outer g) (F : Fr g L h m) (X : (K w.params).In g) (N : News g L h n) (T' : TopV mean mg mb g) (hd : dp + 290 < recursionLimit) (hu : un + 1500 < cLine) : SRW w dp un gd outer g s L PQ 8 h tk := by
  (k_with "GO" =>
  have hTO := ok.told
  have hTR := ok.toldT
  ((k_extra "V1"; obtain ⟨T, TR, oT, kvs, ⟨sd, tS, tS', nS, hS1, hS2'⟩, h2, lo, hT, htab, h6, h7⟩ := id hSn) <;> k_extra "V2")
  unfold SRW
  dsimp only [F484, List.drop]
  repeat' (k_extra "zS"; (fail_if_success (with_reducible show wpAny _ _ (execs [_, _, _, _, _, _] _) _ _ _)); first | k_extra "zP" | k_extra "zN" | k_extra "STOLDR" | k_extra "zQ")
  rename (Fr _ _ _ _) => F9; rename (News _ _ _ _) => N9
  exact sr10 (hSn.mono (by k_extra "zU")) ok (by k_extra "NX") (by k_extra "NX") (by k_extra "NX") (by k_extra "NX") (by k_extra "NX") (hD.mono (by k_extra "zU")) (hS2.mono (by k_extra "zU")) hr hrefs (fun q hq => by have := hs0 q hq; k_mem) hPQ (by k_extra "NX") (by k_mem) (hHv.mono (by k_extra "zU")) hl5 (by k_all) B F9 X N9 T' hd hu
  )
  k_extra "GG"
end sr
theorem putc_val {w : World} {S T TR sd : Addr} {oT : Obj} {gg : Obj → List (Addr × Obj)} {kvs : List (Int × Value)} {num gen : Int} {tn tg : Tok} {tS tS' : Tok} {nS : Nat} {news : List (Addr × Obj)} {va : Value}
    (hS1 : (S, instObj 370 sd) ∈ news) (hS2 : (sd, dictOf [ent w "table" tS (.ref T), ent w "trailer" tS' (.ref TR)] nS) ∈ news) (U : UpdF T oT news gg) (hT : oT.IsDictOf (PySem.intKind PG w) kvs) (hkl : kvs.length ≤ 1000) :
    CallC w 334 1 3 [.ref S, .int num tn, .int gen tg, va] news (PutPost w news gg kvs num gen tg va) := by
  (k_with "GO" =>
  have hTm : (T, oT) ∈ news := by obtain ⟨pre, post, rfl, _⟩ := U.split; simp
  refine enterC (dc := 0) (uc := 0) (binds := [("self", .ref S), ("number", .int num tn), ("generation", .int gen tg), ("value", va)]) (look_334 _) (code_334 _) (fun s _ => BindsTo.of_eq rfl) (locs rfl) rfl rfl rfl (by decide) ?_
  intro dp un gd outer A₀ base g mean mg mb L s B F X N T' hd hu
  dsimp only [F334]
  repeat' (k_extra "zS"; first | k_extra "zP" | ((with_reducible show wpAny _ _ (setItem (Value.ref _) (Value.int _ _) _) _ _ _); (rename AllLt _ _ => l9); refine' kda_set (knd := PySem.intKind _ _) ?F ?N ?U ?d (intKind_is _ _ _ _) ?z ?_; (case F => k_asm); (case N => k_asm); (case U => exact UpdF.tail (Ne.symm (Nat.ne_of_lt (allLt_all l9 _ hTm))) U); (case d => exact hT); (case z => (rw [sizeLine_eq]; omega)); intro h9 o9 F9 N9 hd9; (try dsimp only at N9)) | k_extra "zQ")
  exact RetP.intro F9 N9 ⟨rfl, _, o9, _, fun q hq => hq, l9, hd9⟩
  )
  k_extra "GG"
theorem tab_append {w : World} {n : List (Addr × Obj)} {kvs kvs' : List (Int × Value)} {tab tab' : List (Int × Int × PV)} (h : TabIn w n kvs tab) (h' : TabIn w n kvs' tab') : TabIn w n (kvs ++ kvs') (tab ++ tab') := by
  induction h with
  | nil => exact h'
  | cons a b _ ih => exact .cons a b ih
theorem tabAt_append : ∀ {a b : List (Int × Int × PV)} {x : Int}, tabAt a x = none → tabAt (a ++ b) x = tabAt b x
  | [], _, _, _ => rfl
  | (k, g, d) :: a, b, x, h => by
    by_cases e : k = x
    · rw [tabAt, if_pos e] at h; cases h
    · rw [tabAt, if_neg e] at h
      rw [List.cons_append, tabAt, if_neg e]
      exact tabAt_append h
theorem tab_put {w : World} {n : List (Addr × Obj)} {kvs : List (Int × Value)} {tab : List (Int × Int × PV)} {num gen : Int} {t : Addr} {tg : Tok} {v : Value} {c : Nat} {d : PV} (h : TabIn w n kvs tab) (h0 : tabAt tab num = none) (hm : (t, ({ cls := .type "tuple", data := .seq #[.int gen tg, v] c } : Obj)) ∈ n) (hv : VIn w n v d) : TabIn w n (stored kvs num (.ref t)) (tab ++ [(num, gen, d)]) := by
  ((k_extra "V1"; rcases tab_at h num with ⟨ha, _⟩ | ⟨_, _, _, _, _, _, _, _, _, hb⟩) <;> k_extra "V2")
  · rw [stored_absent ha]
    exact tab_append h (.cons hm hv .nil)
  · rw [h0] at hb; cases hb
def rootPV (way : Int) : PV := match way with
  | 1 => .dict [(("Type" : Str), .name "Catalog")]
  | 2 => .dict [(("Type" : Str), .name "Pages")]
  | 3 => .dict []
  | 4 => .dict [(("Type" : Str), .string #[67, 97, 116, 97, 108, 111, 103])]
  | 5 => .int 7
  | _ => .dict [(("Type" : Str), .ref 31 0)]
def tabE (tab : List (Int × Int × PV)) (way : Int) : List (Int × Int × PV) := tab ++ [(31, 0, .name "Catalog")] ++ (if way = 0 then [] else [(32, 0, rootPV way)])
def trE (way : Int) : List (Str × PV) := if way = 0 then [(("Info" : Str), .ref 33 0)] else [(("Root" : Str), .ref 32 0)]
theorem seven_at {a b c d e f k v : Value} {i : Nat} (h : [a, b, c, d, e, f, k][i]? = some v) : (i = 0 ∧ v = a) ∨ (i = 1 ∧ v = b) ∨ (i = 2 ∧ v = c) ∨ (i = 3 ∧ v = d) ∨ (i = 4 ∧ v = e) ∨ (i = 5 ∧ v = f) ∨ (i = 6 ∧ v = k) := by
  ((k_extra "V1"; rcases i with _ | _ | _ | _ | _ | _ | _ | i) <;> k_extra "V2")
  all_goals first | exact .inl ⟨rfl, (Option.some.inj h).symm⟩ | exact (.inr (.inl ⟨rfl, (Option.some.inj h).symm⟩)) | exact (.inr (.inr (.inl ⟨rfl, (Option.some.inj h).symm⟩))) | exact (.inr (.inr (.inr (.inl ⟨rfl, (Option.some.inj h).symm⟩)))) | exact (.inr (.inr (.inr (.inr (.inl ⟨rfl, (Option.some.inj h).symm⟩))))) | exact (.inr (.inr (.inr (.inr (.inr (.inl ⟨rfl, (Option.some.inj h).symm⟩)))))) | exact (.inr (.inr (.inr (.inr (.inr (.inr ⟨rfl, (Option.some.inj h).symm⟩)))))) | (simp at h; done)
section sr
variable {w : World} {S T TR p c : Addr} {tab : List (Int × Int × PV)} {n fr : List (Addr × Obj)} {PQ : Value → List (Addr × Obj) → Prop} {held : List (Int × List (Int × Int))} {D H : Addr} {o oc oT oR : Obj} {kvs : List (Int × Value)} {NN : Int} {lens : List Dat}
  {dp un : Nat} {gd : Option (List Code)} {outer : List Env} {A₀ : Around} {base g h : Heap} {mean : ExcName → Option Value} {mg mb : Str → Option Value} {L : Addr} {s : Shared} {m : Str → Option Value} {tk : Nat}
def PlainOk (tab : List (Int × Int × PV)) (held : List (Int × List (Int × Int))) (lens : List Dat) : Prop := ∀ way : Int, 0 ≤ way → way < 7 → ShOk (tabE tab way) (trE way) ∧ rootD (tabE tab way) (trE way) = (if way = 1 ∨ way = 6 then [] else wrongD way) ∧ refsAll (tabE tab way) (trE way) = missAll (tabE tab way) held ++ dueT way ∧ (lensAll (tabE tab way)).map rowD = lens
theorem sr6 {way : Int} {tw : Tok} {vM : Value} {hv : List Value} {hn : Nat} (hS : ShelfAt w n S T TR) (hT : oT.IsDictOf (PySem.intKind PG w) kvs) (loT : (T == sysModules) = false) (loR : (TR == sysModules) = false) (hR : oR.IsDictOf (PySem.strKind PG w) []) (htab : TabIn w n kvs tab) (hk40 : kvs.length ≤ 40) (h31 : tabAt tab 31 = none) (h32 : tabAt tab 32 = none)
    (m2 : m "way" = some (.int way tw)) (m3 : m "root" = some vM) (hv0 : 0 ≤ way) (hv7 : way < 7) (hVM : 0 < way → VIn w n vM (rootPV way)) (m1 : m "shelf" = some (.ref S)) (m5 : m "lengths" = some (.ref D)) (m7 : m "held" = some (.ref H)) (hD : DatIn n (.ref D) (.list lens)) (hH : (H, listOf (List.toArray hv) hn) ∈ n) (hHv : HeldAt n hv held) (hl5 : held.length ≤ 5) (hPl : PlainOk tab held lens)
    (o1 : ∀ q ∈ n, q.1 ≠ p) (o2 : ∀ q ∈ n, q.1 ≠ T) (o3 : ∀ q ∈ n, q.1 ≠ TR) (pT : p ≠ T) (pR : p ≠ TR) (tR : T ≠ TR) (hs0 : ∀ q ∈ fr, q ∈ n) (hPQ : PQ (.bool true) ((p, o) :: fr))
    (B : Below A₀ base outer g) (F : Fr g L h m) (X : (K w.params).In g) (N : News g L h ((p, o) :: (T, oT) :: (TR, oR) :: n)) (T' : TopV mean mg mb g) (hd : dp + 290 < recursionLimit) (hu : un + 1500 < cLine) : SRW w dp un gd outer g s L PQ 6 h tk := by
  (k_with "GO" =>
  ((k_extra "V1"; obtain ⟨sd, tS, tS', nS, hS1, hS2⟩ := id hS) <;> k_extra "V2")
  unfold SRW
  dsimp only [F484, List.drop]
  repeat' (k_extra "zS"; (fail_if_success (with_reducible show wpAny _ _ (execs [_, _, _, _, _, _, _, _] _) _ _ _)); first | k_extra "zP" | k_extra "zN" | ((with_reducible show wpAny _ _ (call (Value.ref 334) _) _ _ _); (show wpAny _ _ (call (Value.ref 334) [_, _, _, _]) _ _ _); refine put_use (by k_asm) (by k_asm) (by k_asm) (by k_asm) (by k_asm) rfl (by k_extra "ROOM") (by k_extra "UNITS") (putc_val (by k_mem) (by k_mem) (by k_updF) (by assumption) (by first | omega | (have := stored_length_le kvs 31 (Value.ref tP); omega))) ?_; intro tP oP nP h' tk' F' N' l1' hd'; (try dsimp only at N'); (try simp only [AllLt, allLt_append, LCg.Off1, off1_append, LCg.Off3, off3_app_iff, and_true, and_assoc] at l1'); (repeat (have k_l := And.left l1'; replace l1' := And.right l1')); (try k_sweep)) | k_extra "zQ")
  · rename (0 < way) => hw
    ((k_extra "V1"; obtain ⟨hok, hrd, hrf, hln⟩ := hPl way hv0 hv7) <;> k_extra "V2")
    have hvm := hVM hw
    have e : tabE tab way = (tab ++ [(31, 0, .name "Catalog")]) ++ [(32, 0, rootPV way)] := by rw [tabE, if_neg (by omega)]
    have et : trE way = [(("Root" : Str), .ref 32 0)] := if_neg (by omega)
    rename (Fr _ _ _ _) => F9; rename (News _ _ _ _) => N9
    refine sr8 (tab := tabE tab way) (tr := trE way) (way := way) (tw := tw) ⟨T, TR, oP, _, ⟨sd, tS, tS', nS, by k_mem, by k_mem⟩, by k_mem, loT, hd', ?tb, ?tr, ?ln⟩ hok (by k_extra "NX") (by k_extra "NX") (by k_extra "NX") (by k_extra "NX") (by rw [hln]; exact hD.mono (by k_extra "zU")) hrd hrf (by intro q hq; rcases List.mem_cons.mp hq with rfl | hq; (· k_mem); (· have := hs0 q hq; k_mem)) hPQ (by k_mem) (hHv.mono (by k_extra "zU")) hl5 B F9 X N9 T' hd hu
    case tb =>
      rw [e]
      exact tab_put (tab_put (htab.mono (by k_extra "zU")) h31 (by k_mem) (.name (by k_mem) (by k_mem))) (by rw [tabAt_append h32]; rfl) (by k_mem) (hvm.mono (by k_extra "zU"))
    case tr => rw [et]; exact VIn.dict (by k_mem) (by with_reducible assumption) loR (.cons (.ref (by k_mem) (by k_mem)) .nil)
    case ln => exact Nat.le_trans (stored_length_le _ _ _) (Nat.le_trans (Nat.succ_le_succ (stored_length_le _ _ _)) (by omega))
  · rename (¬ 0 < way) => hw
    ((k_extra "V1"; obtain ⟨hok, hrd, hrf, hln⟩ := hPl way hv0 hv7) <;> k_extra "V2")
    have e : tabE tab way = tab ++ [(31, 0, .name "Catalog")] := by rw [tabE, if_pos (by omega), List.append_nil]
    have et : trE way = [(("Info" : Str), .ref 33 0)] := if_pos (by omega)
    rename (Fr _ _ _ _) => F9; rename (News _ _ _ _) => N9
    refine sr8 (tab := tabE tab way) (tr := trE way) (way := way) (tw := tw) ⟨T, TR, oP, _, ⟨sd, tS, tS', nS, by k_mem, by k_mem⟩, by k_mem, loT, hd', ?tb, ?tr, ?ln⟩ hok (by k_extra "NX") (by k_extra "NX") (by k_extra "NX") (by k_extra "NX") (by rw [hln]; exact hD.mono (by k_extra "zU")) hrd hrf (by intro q hq; rcases List.mem_cons.mp hq with rfl | hq; (· k_mem); (· have := hs0 q hq; k_mem)) hPQ (by k_mem) (hHv.mono (by k_extra "zU")) hl5 B F9 X N9 T' hd hu
    case tb =>
      rw [e]
      exact tab_put (htab.mono (by k_extra "zU")) h31 (by k_mem) (.name (by k_mem) (by k_mem))
    case tr => rw [et]; exact VIn.dict (by k_mem) (by with_reducible assumption) loR (.cons (.ref (by k_mem) (by k_mem)) .nil)
    case ln => exact Nat.le_trans (stored_length_le _ _ _) (by omega)
  )
  k_extra "GG"
theorem sr4 {hv : List Value} {hn : Nat} (hC : PenC p c oc) (hc : (c, oc) ∈ n) (ho : PenInv c NN o) (hNN : NN ≤ 100000) (hS : ShelfAt w n S T TR) (hT : oT.IsDictOf (PySem.intKind PG w) kvs) (loT : (T == sysModules) = false) (loR : (TR == sysModules) = false) (hR : oR.IsDictOf (PySem.strKind PG w) []) (htab : TabIn w n kvs tab) (hk40 : kvs.length ≤ 40) (h31 : tabAt tab 31 = none) (h32 : tabAt tab 32 = none)
    (m0 : m "pen" = some (.ref p)) (m1 : m "shelf" = some (.ref S)) (m5 : m "lengths" = some (.ref D)) (m7 : m "held" = some (.ref H)) (hD : DatIn n (.ref D) (.list lens)) (hH : (H, listOf (List.toArray hv) hn) ∈ n) (hHv : HeldAt n hv held) (hl5 : held.length ≤ 5) (hPl : PlainOk tab held lens)
    (o1 : ∀ q ∈ n, q.1 ≠ p) (o2 : ∀ q ∈ n, q.1 ≠ T) (o3 : ∀ q ∈ n, q.1 ≠ TR) (pT : p ≠ T) (pR : p ≠ TR) (tR : T ≠ TR) (hs0 : ∀ q ∈ fr, q ∈ n) (hPQ : ∀ o', PenInv c (NN + 1) o' → PQ (.bool true) ((p, o') :: fr))
    (B : Below A₀ base outer g) (F : Fr g L h m) (X : (K w.params).In g) (N : News g L h ((p, o) :: (T, oT) :: (TR, oR) :: n)) (T' : TopV mean mg mb g) (hd : dp + 290 < recursionLimit) (hu : un + 1500 < cLine) : SRW w dp un gd outer g s L PQ 4 h tk := by
  (k_with "GO" =>
  ((k_extra "V1"; obtain ⟨sd, tS, tS', nS, hS1, hS2⟩ := id hS) <;> k_extra "V2")
  unfold SRW
  dsimp only [F484, List.drop]
  repeat' (k_extra "zS"; (fail_if_success (with_reducible show wpAny _ _ (execs [_, _, _, _, _, _, _, _, _, _] _) _ _ _)); first | k_extra "zP" | k_extra "zN" | ((with_reducible show wpAny _ _ (subscriptTail _ _ (Value.ref _) (Value.int _ _)) _ _ _); refine item_menu (News.isList (by k_asm) (by k_mem)) (by omega) (by simp only [List.length_cons, List.length_nil]; omega) (by simp only [List.length_cons, List.length_nil]; omega) ?_; intro vM hM) | k_extra "zQ")
  rename (Fr _ _ _ _) => F9; rename (News _ _ _ _) => N9
  have N8 := news_spl3 (a := (p, _)) (b := (T, _)) (c := (TR, _)) (fr := n) N9 (by repeat (first | exact splC3 | apply SplC.cons | apply SplC.app))
  refine sr6 (way := d') (tw := t') (vM := vM) (shelfAt_mono hS ?q1) hT loT loR hR (htab.mono ?q1) hk40 h31 h32 (by k_extra "NX") (by k_extra "NX") hd1' hd2' ?hvm (by k_extra "NX") (by k_extra "NX") (by k_extra "NX") (hD.mono ?q1) (List.mem_append_right _ hH) (hHv.mono ?q1) hl5 hPl ?p1 ?p2 ?p3 pT pR tR (fun q hq => List.mem_append_right _ (hs0 q hq)) (hPQ _ (by with_reducible assumption)) B F9 X N8 T' hd hu
  case q1 => exact fun q hq => List.mem_append_right _ hq
  case p1 => k_all
  case p2 => k_all
  case p3 => k_all
  case hvm =>
    intro hw
    ((k_extra "V1"; rcases seven_at hM with ⟨hi, rfl⟩ | ⟨hi, rfl⟩ | ⟨hi, rfl⟩ | ⟨hi, rfl⟩ | ⟨hi, rfl⟩ | ⟨hi, rfl⟩ | ⟨hi, rfl⟩) <;> k_extra "V2")
    · omega
    · rw [show d' = 1 by omega]; exact VIn.dict (by k_mem) (by assumption) (by assumption) (.cons (.name (by k_mem) (by k_mem)) .nil)
    · rw [show d' = 2 by omega]; exact VIn.dict (by k_mem) (by assumption) (by assumption) (.cons (.name (by k_mem) (by k_mem)) .nil)
    · rw [show d' = 3 by omega]; exact VIn.dict (by k_mem) (by assumption) (by assumption) .nil
    · rw [show d' = 4 by omega]; exact VIn.dict (by k_mem) (by assumption) (by assumption) (.cons (.string (by k_mem) (by k_mem)) .nil)
    · rw [show d' = 5 by omega]; exact VIn.int _ _
    · rw [show d' = 6 by omega]; exact VIn.dict (by k_mem) (by assumption) (by assumption) (.cons (.ref (by k_mem) (by k_mem)) .nil)
  )
  k_extra "GG"
end sr
inductive Laid : Nat → List (Int × Int × PV) → List (Int × List (Int × Int)) → List Dat → Prop
  | zero : Laid 0 [(30, 0, .int 3)] [] []
  | skip {i : Nat} {t : List (Int × Int × PV)} {h : List (Int × List (Int × Int))} {l : List Dat} : Laid i t h l → Laid (i + 1) t h l
  | strm {i : Nat} {t : List (Int × Int × PV)} {h : List (Int × List (Int × Int))} {l rows : List Dat} {es : List (Str × PV)} {b : Array UInt8} : Laid i t h l → StreamOk (1 + (i : Int)) es b rows → Laid (i + 1) (t ++ [(1 + (i : Int), 0, .stream es b)]) h (l ++ rows)
  | hold {i : Nat} {t : List (Int × Int × PV)} {h : List (Int × List (Int × Int))} {l : List Dat} {g : Int} {ps : List (Int × Int)} {pv : PV} : Laid i t h l → PairsOk ps → HolderPV ps pv → 0 ≤ g → g ≤ 1 → Laid (i + 1) (t ++ [(1 + (i : Int), g, pv)]) (h ++ [(1 + (i : Int), ps)]) l
theorem streamOk_rows {num : Int} {es : List (Str × PV)} {b : Array UInt8} {rows : List Dat} (h : StreamOk num es b rows) : rows.length ≤ 1 := by
  have hl : ∀ (v : Value) (n : Nat), (lenRow num v n).length ≤ 1 := by
    intro v n
    cases v <;> first | exact Nat.le_refl 1 | (unfold lenRow; dsimp only; split <;> first | exact Nat.zero_le 1 | exact Nat.le_refl 1)
  ((k_extra "V1"; obtain ⟨_, ⟨k, _, _, _, rfl⟩ | ⟨_, rfl⟩ | ⟨_, rfl⟩ | ⟨_, rfl⟩⟩ := h) <;> k_extra "V2") <;> exact hl _ _
theorem lens_lt {k : Int} {i : Nat} (h : k ≤ 0 ∨ ((i + 1 : Nat) : Int) < k) : k ≤ 0 ∨ (i : Int) < k := by omega
theorem lens_ne {k : Int} {i : Nat} (h : k ≤ 0 ∨ ((i + 1 : Nat) : Int) < k) : ¬ 1 + (i : Int) = k := by omega
theorem Laid.lens {i : Nat} {t : List (Int × Int × PV)} {h : List (Int × List (Int × Int))} {l : List Dat} (H : Laid i t h l) : t.length ≤ 1 + i ∧ h.length ≤ i ∧ l.length ≤ i ∧ ∀ k : Int, k ≠ 30 → (k ≤ 0 ∨ (i : Int) < k) → tabAt t k = none := by
  induction H with
  | zero => exact ⟨by simp, by simp, by simp, fun k h1 _ => by rw [tabAt, if_neg (Ne.symm h1)]; rfl⟩
  | @skip i _ _ _ _ ih => exact ⟨Nat.le_succ_of_le ih.1, Nat.le_succ_of_le ih.2.1, Nat.le_succ_of_le ih.2.2.1, fun k h1 h2 => ih.2.2.2 k h1 (lens_lt h2)⟩
  | @strm i _ _ _ _ _ _ _ hs ih =>
    exact ⟨by rw [List.length_append]; exact Nat.succ_le_succ ih.1, Nat.le_succ_of_le ih.2.1, by rw [List.length_append]; exact Nat.add_le_add ih.2.2.1 (streamOk_rows hs), fun k h1 h2 => by rw [tabAt_append (ih.2.2.2 k h1 (lens_lt h2)), tabAt, if_neg (lens_ne h2)]; rfl⟩
  | @hold i _ _ _ _ _ _ _ _ _ _ _ ih => exact ⟨by rw [List.length_append]; exact Nat.succ_le_succ ih.1, by rw [List.length_append]; exact Nat.succ_le_succ ih.2.1, Nat.le_succ_of_le ih.2.2.1, fun k h1 h2 => by rw [tabAt_append (ih.2.2.2 k h1 (lens_lt h2)), tabAt, if_neg (lens_ne h2)]; rfl⟩
inductive LSt (w : World) (p c S T D H : Addr) (n1 n0 : List (Addr × Obj)) (NN : Int) (i : Nat) (m : Str → Option Value) (nn : List (Addr × Obj)) : Prop
  | mk : ∀ o oT dv nd hv nh tl kvs tab held lens, m "pen" = some (.ref p) → m "shelf" = some (.ref S) → m "held" = some (.ref H) → m "lengths" = some (.ref D) → nn = (p, o) :: (T, oT) :: (D, listOf (List.toArray dv) nd) :: (H, listOf (List.toArray hv) nh) :: (tl ++ n1) → PenInv c (NN + 20 * i) o → oT.IsDictOf (PySem.intKind PG w) kvs → TabIn w (tl ++ n0) kvs tab → DatAll tl dv lens → HeldAt tl hv held → Laid i tab held lens → ((∀ q ∈ tl, q.1 ≠ p) ∧ (∀ q ∈ tl, q.1 ≠ T) ∧ (∀ q ∈ tl, q.1 ≠ D) ∧ ∀ q ∈ tl, q.1 ≠ H) → Apart n1 tl → LSt w p c S T D H n1 n0 NN i m nn
theorem heldAt_snoc {n : List (Addr × Obj)} {hv : List Value} {hs : List (Int × List (Int × Int))} {t l : Addr} {k : Int} {u : Tok} {c np : Nat} {vs : List Value} {ps : List (Int × Int)} (h : HeldAt n hv hs) (h1 : (t, ({ cls := .type "tuple", data := .seq #[.int k u, .ref l] c } : Obj)) ∈ n) (h2 : (l, listOf (List.toArray vs) np) ∈ n) (h3 : PairsAt n vs ps) (h4 : PairsOk ps) : HeldAt n (hv ++ [.ref t]) (hs ++ [(k, ps)]) := by
  induction h with
  | nil => exact .cons h1 h2 h3 h4 .nil
  | cons a b c d _ ih => exact .cons a b c d ih
theorem shelf_perm {g h : Heap} {L : Addr} {a b c d e f i j p : Addr × Obj} {fr : List (Addr × Obj)} (N : News g L h (a :: b :: c :: d :: e :: f :: i :: j :: p :: fr)) : News g L h (p :: j :: i :: b :: c :: (d :: e :: f :: fr)) := news_sub N (by k_extra "zU")
section sr
variable {w : World} {S T TR p c : Addr} {n1 n0 : List (Addr × Obj)} {D H : Addr} {oc : Obj} {NN : Int}
  {dp un : Nat} {gd : Option (List Code)} {outer : List Env} {A₀ : Around} {base g : Heap} {mean : ExcName → Option Value} {mg mb : Str → Option Value} {L : Addr} {s : Shared}
theorem sr3turn (hC : PenC p c oc) (hc : (c, oc) ∈ n1) (hNN : NN ≤ 80000) (hS : ShelfAt w n1 S T TR)
    (o1 : ∀ q ∈ n1, q.1 ≠ p) (o2 : ∀ q ∈ n1, q.1 ≠ T) (o3 : ∀ q ∈ n1, q.1 ≠ D) (o4 : ∀ q ∈ n1, q.1 ≠ H) (pT : p ≠ T) (pD : p ≠ D) (pH : p ≠ H) (tD : T ≠ D) (tH : T ≠ H) (dH : D ≠ H)
    {i : Nat} {m₁ : Str → Option Value} {nn : List (Addr × Obj)} (hi : i < 5) (hL : LSt w p c S T D H n1 n0 NN i m₁ nn) {I : Addr} (oI : ∀ q ∈ nn, q.1 ≠ I) {it : Obj} {t : Tok} {h1 : Heap} {tk1 : Nat} {x : Str} (hx : x = "number") {Q : Flow → Shared → Prop}
    (B : Below A₀ base outer g) (F1 : Fr g L h1 (fun y => if y = x then some (.int (1 + (i : Int)) t) else m₁ y)) (X : (K w.params).In g) (N1 : News g L h1 ((I, it) :: nn)) (T' : TopV mean mg mb g) (hd : dp + 290 < recursionLimit) (hu : un + 1500 < cLine) {J' : (Str → Option Value) → List (Addr × Obj) → Prop} (hJ' : ∀ m' n', LSt w p c S T D H n1 n0 NN (i + 1) m' n' → (∀ q ∈ n', q.1 ≠ I) → J' m' n') :
    wpAny (model PG w) (ktrTop dp un gd "_law_shelf_right" F484.1.2.2 L 484 (.ref 483) [] outer) (execs (match F484.1.2.1 with | [_, _, _, .For _ _ b _ _, _, _, _, _, _, _, _, _, _, _, _, _] => b | _ => []) (envOf "_law_shelf_right" F484.1.2.2 L 484 (.ref 483))) (UnrPost g L { s with heap := h1, toks := tk1 } I it J' Q) (fun _ _ => False) { s with heap := h1, toks := tk1 } := by
  (k_with "GO" =>
  ((k_extra "V1"; obtain ⟨o, oT, dv, nd, hv, nh, tl, kvs, tab, held, lens, g1, g2, g3, g4, rfl, ho, hT, htab, hdv, hhv, hLd, ⟨t1, t2, t3, t4⟩, hap⟩ := hL) <;> k_extra "V2")
  subst hx
  ((k_extra "V1"; obtain ⟨sd, tS, tS', nS, hS1, hS2⟩ := id hS) <;> k_extra "V2")
  ((k_extra "V1"; obtain ⟨lt, lh, ll, hfree⟩ := hLd.lens) <;> k_extra "V2")
  have hkl := tab_length htab
  have hdl := hdv.length
  have hhl := hhv.length
  have I1 : p ≠ I := oI (p, _) (by k_mem)
  have I2 : T ≠ I := oI (T, _) (by k_mem)
  have I3 : D ≠ I := oI (D, _) (by k_mem)
  have I4 : H ≠ I := oI (H, _) (by k_mem)
  have I5 : ∀ q ∈ tl, q.1 ≠ I := fun q hq => oI q (by k_mem)
  have I6 : ∀ q ∈ n1, q.1 ≠ I := fun q hq => oI q (by k_mem)
  dsimp only [F484]
  repeat' (k_extra "zS"; (fail_if_success (with_reducible show wpAny _ _ (call (Value.ref 472) _) _ _ _)); (fail_if_success (with_reducible show wpAny _ _ (call (Value.ref 460) _) _ _ _)); (k_extra "TU"); first | k_extra "zP" | k_extra "zN" | ((with_reducible show wpAny _ _ (call (Value.ref 334) _) _ _ _); (show wpAny _ _ (call (Value.ref 334) [_, _, _, _]) _ _ _); refine put_use (by k_asm) (by k_asm) (by k_asm) (by k_asm) (by k_asm) rfl (by k_extra "ROOM") (by k_extra "UNITS") (putc_val (by k_mem) (by k_mem) (by k_updF) (by assumption) (by omega)) ?_; intro tP oP nP h' tk' F' N' l1' hd'; (try dsimp only at N'); (try simp only [AllLt, allLt_append, LCg.Off1, off1_append, LCg.Off3, off3_app_iff, and_true, and_assoc] at l1'); (repeat (have k_l := And.left l1'; replace l1' := And.right l1')); (try k_sweep)) | ((with_reducible show wpAny _ _ (binaryOp Operator.FloorDiv _ _) _ _ _); refine fdiv_lit (by omega) (by omega) (by omega) ?_; intro z' hz1') | k_extra "zQ")
  · rename (Fr _ _ _ _) => F9; rename (News _ _ _ _) => N9
    have N8 := news_spl3 (a := (p, _)) (b := (T, _)) (c := (D, _)) (fr := (H, _) :: (tl ++ n1)) N9 (by repeat (first | exact splC3 | apply SplC.cons | apply SplC.app))
    refine (octets_ok w p c S T TR D _ oc _ _ _ (1 + (i : Int)) t kvs dv nd hC (by k_mem) (by k_all) (by k_all) (by k_all) pT pD tD (shelfAt_mono hS (by k_extra "zU")) hT (by omega) (by omega) hp' (by omega) (by omega) (by omega)).use B F9 X N8 T' (fun q hq => hq) rfl (by k_extra "ROOM") (by k_extra "UNITS") ?_
    intro r news' h2 tk2 F2 N2 z6_
    ((k_extra "V1"; obtain ⟨o2, oT2, tl2, t5, u5, nT5, st5, es5, b5, add5, rows5, nD5, rfl, hp2, hT2, ht2, hv2, hr2, hok2, hap2⟩ := z6_) <;> k_extra "V2")
    have a1 := hap2.ne (d := p) (by k_mem)
    have a2 := hap2.ne (d := T) (by k_mem)
    have a3 := hap2.ne (d := D) (by k_mem)
    have a4 := hap2.ne (d := H) (by k_mem)
    have a5 := hap2.ne (d := I) (by k_mem)
    have a6 : Apart n1 tl2 := fun q hq => hap2 q (by k_mem)
    repeat' (k_extra "zS"; (k_extra "TU"); first | k_extra "zP" | k_extra "zN" | k_extra "zQ")
    rename (Fr _ _ _ _) => F9; rename (News _ _ _ _) => N9
    refine unr_intro F9 N9 ((p, o2) :: (T, oT2) :: (D, _) :: (H, _) :: ((tl2 ++ tl) ++ n1)) (by k_extra "zU") (by k_all) (hJ' _ _ ⟨o2, oT2, dv ++ add5, nD5, hv, nh, tl2 ++ tl, _, tab ++ [(1 + (i : Int), 0, .stream es5 b5)], held, lens ++ rows5, by k_extra "NX", by k_extra "NX", by k_extra "NX", by k_extra "NX", rfl, pen_mono hp2 (by omega), hT2, tab_put (htab.mono (by k_extra "zU")) (hfree _ ?k1 (Or.inr (by omega))) (by k_mem) (hv2.mono (by k_extra "zU")), (hdv.mono (by k_extra "zU")).append (hr2.mono (by k_extra "zU")), hhv.mono (by k_extra "zU"), .strm hLd hok2, ⟨by k_all, by k_all, by k_all, by k_all⟩, Apart.app a6 hap⟩ (by k_all))
    case k1 => omega
  · rename (Fr _ _ _ _) => F9; rename (News _ _ _ _) => N9
    have N8 := news_spl1 (a := (p, _)) (fr := (T, _) :: (D, _) :: (H, _) :: (tl ++ n1)) N9 (by k_extra "SPL1")
    refine (pairs_ok w p c _ oc _ _ hC (by k_mem) (by k_all) hp' (by omega)).use B F9 X N8 T' (fun q hq => hq) rfl (by k_extra "ROOM") (by k_extra "UNITS") ?_
    intro r news' h2 tk2 F2 N2 z6_
    ((k_extra "V1"; obtain ⟨l2, o2, tl2, ps2, rfl, rfl, hdat2, hok2, hap2, hp2⟩ := z6_) <;> k_extra "V2")
    have a1 := hap2.ne (d := p) (by k_mem)
    have a2 := hap2.ne (d := T) (by k_mem)
    have a3 := hap2.ne (d := D) (by k_mem)
    have a4 := hap2.ne (d := H) (by k_mem)
    have a5 := hap2.ne (d := I) (by k_mem)
    have a6 : Apart n1 tl2 := fun q hq => hap2 q (by k_mem)
    clear N8
    repeat' (k_extra "zS"; (fail_if_success (with_reducible show wpAny _ _ (call (Value.ref 465) _) _ _ _)); first | k_extra "zP" | k_extra "zN" | ((with_reducible show wpAny _ _ (binaryOp Operator.FloorDiv _ _) _ _ _); refine fdiv_lit (by omega) (by omega) (by omega) ?_; intro z' hz1') | k_extra "zQ")
    rename (PenInv _ _ _) => hp3
    rename (Fr _ _ _ _) => F9; rename (News _ _ _ _) => N9
    refine (holder_ok w p c l2 _ oc _ _ ps2 hok2 (hdat2.mono (by k_extra "zU")) hC (by k_mem) (by k_all) hp3 (by omega)).use B F9 X N9 T' (fun q hq => hq) rfl (by k_extra "ROOM") (by k_extra "UNITS") ?_
    intro r news' h4 tk4 F4 N4 z6_
    ((k_extra "V1"; obtain ⟨o4, tl4, pv, rfl, hv4, hpv, hap4, hp4⟩ := z6_) <;> k_extra "V2")
    have b1 := hap4.ne (d := p) (by k_mem)
    have b2 := hap4.ne (d := T) (by k_mem)
    have b3 := hap4.ne (d := D) (by k_mem)
    have b4 := hap4.ne (d := H) (by k_mem)
    have b5 := hap4.ne (d := I) (by k_mem)
    have b6 : Apart n1 tl4 := fun q hq => hap4 q (by k_mem)
    clear N9 F9
    ((k_extra "V1"; obtain ⟨lx, vs2, np2, e2, hm2, hps2⟩ := pairs_inv hdat2) <;> k_extra "V2")
    ((k_extra "V1"; cases e2) <;> k_extra "V2")
    repeat' (k_extra "zS"; (k_extra "TU"); first | k_extra "zP" | k_extra "zN" | ((with_reducible show wpAny _ _ (call (Value.ref 334) _) _ _ _); (show wpAny _ _ (call (Value.ref 334) [_, _, _, _]) _ _ _); refine put_use (by k_asm) (by k_asm) (by k_asm) (by k_asm) (by k_asm) rfl (by k_extra "ROOM") (by k_extra "UNITS") (putc_val (by k_mem) (by k_mem) (by k_updF) (by assumption) (by omega)) ?_; intro tP oP nP h' tk' F' N' l1' hd'; (try dsimp only at N'); (try simp only [AllLt, allLt_append, LCg.Off1, off1_append, LCg.Off3, off3_app_iff, and_true, and_assoc] at l1'); (repeat (have k_l := And.left l1'; replace l1' := And.right l1')); (try k_sweep)) | k_extra "zQ")
    rename (Fr _ _ _ _) => F9; rename (News _ _ _ _) => N9; simp only [List.push_toArray] at N9
    refine unr_intro F9 N9 ((p, o4) :: (T, oP) :: (D, _) :: (H, _) :: ((([(_, _), (tP, _)] ++ tl4) ++ (tl2 ++ tl)) ++ n1)) (by k_extra "zU") (by k_all) (hJ' _ _ ⟨o4, oP, dv, nd, hv ++ [_], _, ([(_, _), (tP, _)] ++ tl4) ++ (tl2 ++ tl), _, tab ++ [(1 + (i : Int), _, pv)], held ++ [(1 + (i : Int), ps2)], lens, by k_extra "NX", by k_extra "NX", by k_extra "NX", by k_extra "NX", rfl, pen_mono hp4 (by omega), hd', tab_put (htab.mono (by k_extra "zU")) (hfree _ ?k1 (Or.inr (by omega))) (by k_mem) (hv4.mono (by k_extra "zU")), hdv.mono (by k_extra "zU"), heldAt_snoc (hhv.mono (by k_extra "zU")) (by k_mem) (by k_mem) (hps2.mono (by k_extra "zU")) hok2, .hold hLd hok2 hpv ?k2 ?k3, ⟨by k_all, by k_all, by k_all, by k_all⟩, Apart.app (by k_extra "zA") (Apart.app a6 hap)⟩ (by k_all))
    case k1 => omega
    case k2 => omega
    case k3 => omega
  · rename (Fr _ _ _ _) => F9; rename (News _ _ _ _) => N9
    exact unr_intro F9 N9 ((p, o') :: (T, oT) :: (D, _) :: (H, _) :: (tl ++ n1)) (by k_extra "zU") (by k_all) (hJ' _ _ ⟨o', oT, dv, nd, hv, nh, tl, kvs, tab, held, lens, by k_extra "NX", by k_extra "NX", by k_extra "NX", by k_extra "NX", rfl, pen_mono hp' (by omega), hT, htab, hdv, hhv, hLd.skip, ⟨t1, t2, t3, t4⟩, hap⟩ (by k_all))
  )
  k_extra "GG"
theorem sr3 {fr : List (Addr × Obj)} {o oT oR : Obj} {kvs : List (Int × Value)} {h : Heap} {m : Str → Option Value} {tk : Nat} {PQ : Value → List (Addr × Obj) → Prop} (hPl : ∀ tab held lens, Laid 5 tab held lens → PlainOk tab held lens) (hC : PenC p c oc) (hc : (c, oc) ∈ n0) (ho : PenInv c NN o) (hNN : NN ≤ 80000) (hS : ShelfAt w n0 S T TR) (hT : oT.IsDictOf (PySem.intKind PG w) kvs) (loT : (T == sysModules) = false) (loR : (TR == sysModules) = false) (hR : oR.IsDictOf (PySem.strKind PG w) []) (htab : TabIn w n0 kvs [(30, 0, .int 3)])
    (m0 : m "pen" = some (.ref p)) (m1 : m "shelf" = some (.ref S)) (m2 : m "held" = some (.ref H)) (m3 : m "lengths" = some (.ref D))
    (o1 : ∀ q ∈ n0, q.1 ≠ p) (o2 : ∀ q ∈ n0, q.1 ≠ T) (o3 : ∀ q ∈ n0, q.1 ≠ D) (o4 : ∀ q ∈ n0, q.1 ≠ H) (o5 : ∀ q ∈ n0, q.1 ≠ TR) (pT : p ≠ T) (pD : p ≠ D) (pH : p ≠ H) (pR : p ≠ TR) (tD : T ≠ D) (tH : T ≠ H) (tR : T ≠ TR) (dH : D ≠ H) (dR : TR ≠ D) (hR2 : TR ≠ H) (hs0 : ∀ q ∈ fr, q ∈ n0) (hPQ : ∀ o', PenInv c (NN + 101) o' → PQ (.bool true) ((p, o') :: fr))
    (B : Below A₀ base outer g) (F : Fr g L h m) (X : (K w.params).In g) (N : News g L h ((p, o) :: (T, oT) :: (TR, oR) :: (D, listOf (List.toArray []) 0) :: (H, listOf (List.toArray []) 0) :: n0)) (T' : TopV mean mg mb g) (hd : dp + 290 < recursionLimit) (hu : un + 1500 < cLine) : SRW w dp un gd outer g s L PQ 3 h tk := by
  (k_with "GO" =>
  unfold SRW
  dsimp only [F484, List.drop]
  repeat' (k_extra "zS"; (fail_if_success (with_reducible show wpAny _ _ (pyIter (Value.ref _)) _ _ _)); first | k_extra "zP" | k_extra "FORV" | k_extra "zQ")
  rename (IsRange _ _ _ _ _ _ _ _) => hRg
  rename (Fr _ _ _ _) => F9; rename (News _ _ _ _) => N9
  ((k_extra "V1"; obtain ⟨n1, hn1⟩ : ∃ n1, n1 = (TR, oR) :: n0 := ⟨_, rfl⟩) <;> k_extra "V2")
  have hsub : ∀ q ∈ n0, q ∈ n1 := by rw [hn1]; exact fun q hq => List.mem_cons_of_mem _ hq
  refine iter_rangeUnr (n := 5) (news := (p, o) :: (T, oT) :: (D, listOf (List.toArray []) 0) :: (H, listOf (List.toArray []) 0) :: ([] ++ n1)) (by rfl) hRg (by decide) (by decide) F9 (news_sub N9 (by rw [hn1]; k_extra "zU")) (fun I hI => range_loop (fun i m' n' => LSt w p c S T D H n1 n0 NN i m' n' ∧ ∀ q ∈ n', q.1 ≠ I) ?h0 ?step ?fin)
  case h0 => exact ⟨⟨o, oT, [], 0, [], 0, [], kvs, _, [], [], by k_extra "NX", by k_extra "NX", by k_extra "NX", by k_extra "NX", rfl, by simpa using ho, hT, htab, .nil, .nil, .zero, ⟨by simp, by simp, by simp, by simp⟩, Apart.nil⟩, fun q hq => Nat.ne_of_lt (hI q hq)⟩
  case step =>
    intro i m₁ nn hi z4_ it t h1 tk1 F1 N1
    ((k_extra "V1"; obtain ⟨hL, oI⟩ := z4_) <;> k_extra "V2")
    exact sr3turn hC (hsub _ hc) hNN (shelfAt_mono hS hsub) (by rw [hn1]; k_all) (by rw [hn1]; k_all) (by rw [hn1]; k_all) (by rw [hn1]; k_all) pT pD pH tD tH dH hi hL oI rfl B F1 X N1 T' hd hu (fun m' n' a b => ⟨a, b⟩)
  case fin =>
    intro m₁ n₁ h1 tk1 z4_ F1 N1
    ((k_extra "V1"; obtain ⟨⟨o', oT', dv, nd, hv, nh, tl, kvs', tab, held, lens, g1, g2, g3, g4, rfl, ho', hT', htab', hdv, hhv, hLd, ⟨t1, t2, t3, t4⟩, hap⟩, oI⟩ := z4_) <;> k_extra "V2")
    subst hn1
    ((k_extra "V1"; obtain ⟨lt, lh, ll, hfree⟩ := hLd.lens) <;> k_extra "V2")
    have hkl := tab_length htab'
    have t5 : ∀ q ∈ tl, q.1 ≠ TR := hap.ne (d := TR) (by k_mem)
    have N8 : News g L h1 ((p, o') :: (T, oT') :: (TR, oR) :: ((D, listOf dv.toArray nd) :: (H, listOf hv.toArray nh) :: (tl ++ n0))) := news_sub N1 (by k_extra "zU")
    exact sr4 (NN := NN + 100) (lens := lens) (held := held) (hv := hv) hC (by k_mem) (pen_mono ho' (by omega)) (by omega) (shelfAt_mono hS (by k_extra "zU")) hT' loT loR hR (htab'.mono (by k_extra "zU")) (by omega) (hfree 31 (by decide) (Or.inr (by decide))) (hfree 32 (by decide) (Or.inr (by decide))) g1 g2 g4 g3 (.list (by k_mem) (hdv.mono (by k_extra "zU"))) (by k_mem) (hhv.mono (by k_extra "zU")) (by omega) (hPl _ _ _ hLd) (by k_all) (by k_all) (by k_all) pT pR tR (fun q hq => by have := hs0 q hq; k_mem) (fun o' h => hPQ o' (by rwa [Int.add_assoc] at h)) B F1 X N8 T' hd hu
  )
  k_extra "GG"
theorem shelf_right_ok (w : World) (hPl : ∀ tab held lens, Laid 5 tab held lens → PlainOk tab held lens) (p c : Addr) (o oc : Obj) (fr : List (Addr × Obj)) (N : Int) (hC : PenC p c oc) (hc : (c, oc) ∈ fr) (hfr : ∀ q ∈ fr, q.1 ≠ p) (ho : PenInv c N o) (hN : N ≤ 80000) :
    CallC w 484 291 1503 [.ref p] ((p, o) :: fr) (fun r news' => ∃ o', r = .bool true ∧ news' = (p, o') :: fr ∧ PenInv c (N + 101) o') := by
  (k_with "GO" =>
  refine CallC.gen fun PQ hPQ => ?_
  refine enterC (dc := 290) (uc := 1500) (binds := [("pen", .ref p)]) (look_484 _) (code_484 _) (fun s _ => BindsTo.of_eq rfl) (locs rfl) rfl rfl rfl (by decide) ?_
  intro dp un gd outer A₀ base g mean mg mb L s B F X N' T' hd hu
  dsimp only [F484]
  repeat' (k_extra "zS"; (fail_if_success (with_reducible show wpAny _ _ (execs [_, _, _, _, _, _, _, _, _, _, _, _, _] _) _ _ _)); first | k_extra "zP" | ((with_reducible show wpAny _ _ (call (Value.ref 334) _) _ _ _); (show wpAny _ _ (call (Value.ref 334) [_, _, _, _]) _ _ _); refine put_use (by k_asm) (by k_asm) (by k_asm) (by k_asm) (by k_asm) rfl (by k_extra "ROOM") (by k_extra "UNITS") (putc_val (by k_mem) (by k_mem) (by k_updF) (by assumption) (by simp)) ?_; intro tP oP nP h' tk' F' N' l1' hd'; (try dsimp only at N'); (try simp only [AllLt, allLt_append, LCg.Off1, off1_append, LCg.Off3, off3_app_iff, and_true, and_assoc] at l1'); (repeat (have k_l := And.left l1'; replace l1' := And.right l1')); (try k_sweep)) | k_extra "zQ")
  rename (Fr _ _ _ _) => F9; rename (News _ _ _ _) => N9
  have N8 := shelf_perm N9
  exact sr3 hPl hC (by k_mem) ho hN ⟨_, _, _, _, by k_mem, by k_mem⟩ (by assumption) (by assumption) (by assumption) (by assumption) (tab_put .nil rfl (by k_mem) (.int _ _)) (by k_extra "NX") (by k_extra "NX") (by k_extra "NX") (by k_extra "NX") (by k_all) (by k_all) (by k_all) (by k_all) (by k_all) (by k_ne) (by k_ne) (by k_ne) (by k_ne) (by k_ne) (by k_ne) (by k_ne) (by k_ne) (by k_ne) (by k_ne) (by k_extra "zU") (fun o' h => hPQ _ _ ⟨o', rfl, rfl, h⟩) B F9 X N8 T' hd hu
  )
  k_extra "GG"
end sr
structure FldOk (tab : List (Int × Int × PV)) (es : List (Str × PV)) (idx : Int) (rows : List (Str × Int × Str)) : Prop where
  told : TabOk tab
  fetch : ∀ k, FetchOk tab (getD es k)
  box : BoxOk tab es
  eq : fieldsD tab es idx = rows
  len : rows.length ≤ 900
def resE (way : Int) : List (Str × PV) := match way with
  | 0 => []
  | 1 => [(("Resources" : Str), .dict [])]
  | 2 => [(("Resources" : Str), .ref 2 0)]
  | _ => [(("Resources" : Str), .ref 9 0)]
def resDue (way idx : Int) : List (Str × Int × Str) := if way = 0 ∨ way = 3 then [fnd "field" idx "no Resources"] else []
section fr
variable {w : World} {S p c FD E : Addr} {tab : List (Int × Int × PV)} {es : List (Str × PV)} {n k0 fr : List (Addr × Obj)} {PQ : Value → List (Addr × Obj) → Prop} {idx : Int} {ti : Tok} {rows : List (Str × Int × Str)}
  {dp un : Nat} {gd : Option (List Code)} {outer : List Env} {A₀ : Around} {base g h : Heap} {mean : ExcName → Option Value} {mg mb : Str → Option Value} {L : Addr} {s : Shared} {m : Str → Option Value} {tk : Nat}
noncomputable def FRW (w : World) (dp un : Nat) (gd : Option (List Code)) (outer : List Env) (g : Heap) (s : Shared) (L : Addr) (PQ : Value → List (Addr × Obj) → Prop) (k : Nat) (h : Heap) (tk : Nat) : Prop :=
  wpAny (model PG w) (ktrTop dp un gd "_law_fields_right" F496.1.2.2 L 496 (.ref 495) [] outer) (execs (F496.1.2.1.drop k) (envOf "_law_fields_right" F496.1.2.2 L 496 (.ref 495))) (RetP g L s PQ) (fun _ _ => False) { s with heap := h, toks := tk }
theorem fr10 (hSn : Shelved w n S tab []) (ok : FldOk tab es idx rows) (m1 : m "shelf" = some (.ref S)) (m2 : m "index" = some (.int idx ti)) (m3 : m "fields" = some (.ref FD)) (m4 : m "due" = some (.ref E))
    (hF : VIn w n (.ref FD) (.dict es)) (hE : DatIn n (.ref E) (.list (rows.map rowD))) (hs0 : ∀ q ∈ k0, q ∈ n) (hPQ : PQ (.bool true) k0)
    (B : Below A₀ base outer g) (F : Fr g L h m) (X : (K w.params).In g) (N : News g L h n) (T' : TopV mean mg mb g) (hd : dp + 290 < recursionLimit) (hu : un + 1500 < cLine) : FRW w dp un gd outer g s L PQ 10 h tk := by
  (k_with "GO" =>
  have hTO := ok.told
  have hTR : ToldOk 6 (.dict []) := by simp [ToldOk, Rising]
  have hrl := ok.len
  rw [← ok.eq] at hE hrl
  ((k_extra "V1"; obtain ⟨dsh, hde, hdep⟩ := shelfD_dep tab []) <;> k_extra "V2")
  ((k_extra "V1"; obtain ⟨T, TR, oT, kvs, ⟨sd, tS, tS', nS, hS1, hS2'⟩, h2, lo, hT, htab, h6, h7⟩ := id hSn) <;> k_extra "V2")
  unfold FRW
  dsimp only [F496, List.drop]
  repeat' (k_extra "zS"; (fail_if_success (with_reducible show wpAny _ _ (execs [_] _) _ _ _)); first | k_extra "zP" | k_extra "zN" | k_extra "STOLDR" | k_extra "zQ")
  have hB := hS2
  clear hS2
  rename (Fr _ _ _ _) => F9; rename (News _ _ _ _) => N9
  repeat' (k_extra "zS"; (fail_if_success (with_reducible show LCg.CompSrc _ _ _ _ _ _ _ _ _ _ _ _ _ _)); first | k_extra "zP" | k_extra "zN" | ((with_reducible show wpAny _ _ (call (Value.ref 441) _) _ _ _); (show wpAny _ _ (call (Value.ref 441) [_, _, _]) _ _ _); refine find_use (by k_asm) (by k_asm) (by k_asm) (by k_asm) (by k_asm) (fields_ok w hSn hF (by k_extra "zU") ok.fetch ok.box) rfl (by k_extra "ROOM") (by k_extra "UNITS") ?_; intro FD2 fvs fc1 tlE hhE tkE FE NE hFm hFa hEa; (try k_sweep)) | k_extra "zQ")
  have hFl := hFa.length
  refine LCg.CompSrc.ledger (by rfl) (by k_asm) (by k_asm) (by k_mem) (by rw [sizeLine_eq, List.size_toArray]; omega) ?_
  intro g1
  refine comp_pure (fun i tl ys => DatAll tl ys (((fieldsD tab es idx).take i).map rowD)) .nil ?_ ?_
  · intro i x ys tl hi hx hy hta hJ I oI C oC D m2 h1 tk1 E' hNs hx2 F1 N1 o1 o2 ne
    ((k_extra "V1"; obtain ⟨f, hf, hfin⟩ := fall_at hFa (by simpa using hx)) <;> k_extra "V2")
    ((k_extra "V1"; obtain ⟨fa, fd, ft, fu, ft', fu', ft'', fu'', fc, rfl, hm1, hm2⟩ := id hfin) <;> k_extra "V2")
    ((k_extra "V1"; obtain ⟨ne1, ne2, ne3⟩ := ne) <;> k_extra "V2")
    repeat' (k_extra "zS"; first | k_extra "zP" | k_extra "FTOLDR" | k_extra "zQ")
    refine cpost_pure tlF FF NF (LCg.Off3.of fun q hq => ⟨hF3.ne (d := I) (by k_mem) q hq, hF3.ne (d := C) (by k_mem) q hq, hF3.ne (d := D) (by k_mem) q hq⟩) o1 o2 (fun q hq => hF3 q (by k_mem)) hta ?e6 ?e7
    case e6 => lcg_src
    case e7 => show DatAll _ _ _; rw [List.take_add_one, hf, Option.toList_some, List.map_append]; exact datAll_snoc hJ (hF2.mono fun _ hq => List.mem_append_left _ hq)
  · intro tl ys hy hta hJ
    rw [List.size_toArray, hFl, List.take_length] at hJ
    have hle : ys.length ≤ 900 := by have := datAll_length hJ; rw [List.length_map] at this; omega
    repeat' (k_extra "zS"; first | k_extra "zP" | k_extra "zN" | k_extra "STOLDR" | ((with_reducible show wpAny _ _ (compareOp CmpOp.Eq (Value.ref D') (Value.ref E)) _ _ _); refine eq_lists (k := 2) (ds := (fieldsD tab es idx).map rowD) (by k_asm) (rows_dep _) (.list (by k_mem) (hJ.mono fun q hq => by k_mem)) (hE.mono fun q hq => by k_mem) (by k_extra "UNITS") ?_) | ((with_reducible show wpAny _ _ (compareOp CmpOp.Eq _ _) _ _ _); refine eq_tupsD (by k_asm) hdep (hde ▸ hS2.mono fun q hq => by k_mem) (hde ▸ hB.mono fun q hq => by k_mem) (by k_extra "UNITS") ?_) | k_extra "zQ")
    rename (News _ _ _ _) => N7
    exact RetP.intro (by assumption) (fun q hq => N7 q (by have := hs0 q hq; k_mem)) hPQ
  )
  k_extra "GG"
end fr
theorem three_at {a b c v : Value} {i : Nat} (h : [a, b, c][i]? = some v) : (i = 0 ∧ v = a) ∨ (i = 1 ∧ v = b) ∨ (i = 2 ∧ v = c) := by
  ((k_extra "V1"; rcases i with _ | _ | _ | i) <;> k_extra "V2")
  all_goals first | (simp at h; done) | (have h2 := (Option.some.inj h).symm; simp [h2])
theorem ves_append {w : World} {n : List (Addr × Obj)} : ∀ {kvs kvs' : List (Str × Value)} {es es' : List (Str × PV)}, VEs w n kvs es → VEs w n kvs' es' → VEs w n (kvs ++ kvs') (es ++ es')
  | [], _, _, _, h, h' => by cases h; exact h'
  | _ :: _, _, _, _, h, h' => by cases h with | cons a b => exact .cons a (ves_append b h')
theorem ves_none {w : World} {n : List (Addr × Obj)} {k : Str} : ∀ {kvs : List (Str × Value)} {es : List (Str × PV)}, VEs w n kvs es → (∀ e ∈ es, e.1 ≠ k) → valueAt kvs k = none
  | [], _, h, _ => rfl
  | (k', v) :: kvs, _, h, hk => by
    k_extra "V0"
    cases h with
    | cons a b =>
      k_extra "V2"
      have h1 := hk _ List.mem_cons_self
      have h2 := ves_none b fun e he => hk e (List.mem_cons_of_mem _ he)
      simpa [valueAt, h1] using h2
theorem ves_put {w : World} {n : List (Addr × Obj)} {k : Str} {v : Value} {d : PV} {kvs : List (Str × Value)} {es : List (Str × PV)} (h : VEs w n kvs es) (hk : ∀ e ∈ es, e.1 ≠ k) (hv : VIn w n v d) : VEs w n (stored kvs k v) (es ++ [(k, d)]) := by
  rw [stored_absent (ves_none h hk)]
  exact ves_append h (.cons hv .nil)
theorem ves_len {w : World} {n : List (Addr × Obj)} : ∀ {kvs : List (Str × Value)} {es : List (Str × PV)}, VEs w n kvs es → kvs.length = es.length
  | [], _, h => by cases h; rfl
  | _ :: _, _, h => by cases h with | cons a b => simp [ves_len b]
theorem nine_at {a b c d e f g h i v : Value} {k : Nat} (H : [a, b, c, d, e, f, g, h, i][k]? = some v) : v = a ∨ v = b ∨ v = c ∨ v = d ∨ v = e ∨ v = f ∨ v = g ∨ v = h ∨ v = i := by
  ((k_extra "V1"; rcases k with _ | _ | _ | _ | _ | _ | _ | _ | _ | k) <;> k_extra "V2")
  all_goals first | exact .inl (Option.some.inj H).symm | exact (.inr (.inl (Option.some.inj H).symm)) | exact (.inr (.inr (.inl (Option.some.inj H).symm))) | exact (.inr (.inr (.inr (.inl (Option.some.inj H).symm)))) | exact (.inr (.inr (.inr (.inr (.inl (Option.some.inj H).symm))))) | exact (.inr (.inr (.inr (.inr (.inr (.inl (Option.some.inj H).symm)))))) | exact (.inr (.inr (.inr (.inr (.inr (.inr (.inl (Option.some.inj H).symm))))))) | exact (.inr (.inr (.inr (.inr (.inr (.inr (.inr (.inl (Option.some.inj H).symm)))))))) | exact (.inr (.inr (.inr (.inr (.inr (.inr (.inr (.inr (Option.some.inj H).symm)))))))) | (simp at H; done)
def turnCases : List (PV × Bool) := [(.none, false), (.int 0, false), (.int 90, false), (.int (-270), false), (.int 45, true), (.int 91, true), (.dec 1 1, true), (.bool true, true), (.int 450, false)]
theorem turn_cases {d : PV} {b : Bool} (h : (d, b) ∈ turnCases) : (d = .none ∧ b = false) ∨ (∃ k, d = .int k ∧ b = ([45, 91].any fun x => x == k)) ∨ (d = .dec 1 1 ∧ b = true) ∨ (d = .bool true ∧ b = true) := by
  simp only [turnCases, List.mem_cons, Prod.mk.injEq, List.not_mem_nil, or_false] at h
  ((k_extra "V1"; rcases h with ⟨rfl, rfl⟩ | ⟨rfl, rfl⟩ | ⟨rfl, rfl⟩ | ⟨rfl, rfl⟩ | ⟨rfl, rfl⟩ | ⟨rfl, rfl⟩ | ⟨rfl, rfl⟩ | ⟨rfl, rfl⟩ | ⟨rfl, rfl⟩) <;> k_extra "V2")
  · exact .inl ⟨rfl, rfl⟩
  · exact .inr (.inl ⟨_, rfl, rfl⟩)
  · exact .inr (.inl ⟨_, rfl, rfl⟩)
  · exact .inr (.inl ⟨_, rfl, rfl⟩)
  · exact .inr (.inl ⟨_, rfl, rfl⟩)
  · exact .inr (.inl ⟨_, rfl, rfl⟩)
  · exact .inr (.inr (.inl ⟨rfl, rfl⟩))
  · exact .inr (.inr (.inr ⟨rfl, rfl⟩))
  · exact .inr (.inl ⟨_, rfl, rfl⟩)
def turnE (d : PV) : List (Str × PV) := match d with
  | .none => []
  | d => [(("Rotate" : Str), d)]
def turnDue (b : Bool) (idx : Int) : List (Str × Int × Str) := if b = true then [fnd "field" idx "Rotate is no multiple of 90"] else []
theorem rot_keys {es : List (Str × PV)} {d : PV} (hk : ∀ e ∈ es, e.1 ≠ "Resources" ∧ e.1 ≠ "Rotate") : ∀ e ∈ es ++ [(("Rotate" : Str), d)], e.1 ≠ "Resources" := by
  intro e he
  ((k_extra "V1"; rcases List.mem_append.mp he with h | h) <;> k_extra "V2")
  · exact (hk e h).1
  · rw [List.mem_singleton.mp h]; show (Str.ofString "Rotate") ≠ Str.ofString "Resources"; decide +kernel
section fr
variable {w : World} {S p c FD E : Addr} {tab : List (Int × Int × PV)} {es : List (Str × PV)} {n k0 fr : List (Addr × Obj)} {PQ : Value → List (Addr × Obj) → Prop} {idx : Int} {ti : Tok} {rows : List (Str × Int × Str)} {o oc oF : Obj} {NN : Int} {kvF : List (Str × Value)} {dv : List Value} {nd : Nat}
  {dp un : Nat} {gd : Option (List Code)} {outer : List Env} {A₀ : Around} {base g h : Heap} {mean : ExcName → Option Value} {mg mb : Str → Option Value} {L : Addr} {s : Shared} {m : Str → Option Value} {tk : Nat}
theorem fr7 (hSn : Shelved w n S tab []) (hC : PenC p c oc) (hc : (c, oc) ∈ n) (ho : PenInv c NN o) (hNN : NN ≤ 100000) (m0 : m "pen" = some (.ref p)) (m1 : m "shelf" = some (.ref S)) (m2 : m "index" = some (.int idx ti)) (m3 : m "fields" = some (.ref FD)) (m4 : m "due" = some (.ref E))
    (hF : oF.IsDictOf (PySem.strKind PG w) kvF) (loF : (FD == sysModules) = false) (hes : VEs w n kvF es) (hle : es.length ≤ 10) (hk : ∀ e ∈ es, e.1 ≠ "Resources") (hE : DatAll n dv (rows.map rowD)) (hdl : dv.length ≤ 800)
    (o1 : ∀ q ∈ n, q.1 ≠ p) (o2 : ∀ q ∈ n, q.1 ≠ FD) (o3 : ∀ q ∈ n, q.1 ≠ E) (pF : p ≠ FD) (pE : p ≠ E) (fE : FD ≠ E)
    (hEnd : ∀ way : Int, 0 ≤ way → way < 4 → FldOk tab (es ++ resE way) idx (rows ++ resDue way idx)) (hs0 : ∀ q ∈ fr, q ∈ n) (hPQ : ∀ o', PenInv c (NN + 1) o' → PQ (.bool true) ((p, o') :: fr))
    (B : Below A₀ base outer g) (F : Fr g L h m) (X : (K w.params).In g) (N : News g L h ((p, o) :: (FD, oF) :: (E, listOf (List.toArray dv) nd) :: n)) (T' : TopV mean mg mb g) (hd : dp + 290 < recursionLimit) (hu : un + 1500 < cLine) : FRW w dp un gd outer g s L PQ 7 h tk := by
  (k_with "GO" =>
  have hkl := ves_len hes
  unfold FRW
  dsimp only [F496, List.drop]
  repeat' (k_extra "zS"; (fail_if_success (with_reducible show wpAny _ _ (execs [_, _] _) _ _ _)); first | k_extra "zP" | k_extra "zN" | k_extra "SETF" | ((with_reducible show wpAny _ _ (subscriptTail _ _ (Value.ref _) (Value.int _ _)) _ _ _); refine item_menu (News.isList (by k_asm) (by k_mem)) (by omega) (by simp only [List.length_cons, List.length_nil]; omega) (by simp only [List.length_cons, List.length_nil]; omega) ?_; intro vM hM) | k_extra "zQ")
  · rename (_ = true) => hc
    have hw : d' = 3 := by simp at hc; omega
    subst hw
    have hE2 := hEnd 3 (by decide) (by decide)
    rename (Fr _ _ _ _) => F9; rename (News _ _ _ _) => N9; simp only [List.push_toArray] at N9
    ((k_extra "V1"; rcases three_at hM with ⟨hi, rfl⟩ | ⟨hi, rfl⟩ | ⟨hi, rfl⟩) <;> k_extra "V2")
    · exact absurd hi (by decide)
    · exact absurd hi (by decide)
    · exact (fr10 (hSn.mono (by k_extra "zU")) hE2 (by k_extra "NX") (by k_extra "NX") (by k_extra "NX") (by k_extra "NX") (VIn.dict (by k_mem) (by with_reducible assumption) loF (ves_put (hes.mono (by k_extra "zU")) hk (.ref (by k_mem) (by k_mem)))) (.list (by k_mem) (by rw [List.map_append]; exact (hE.mono (by k_extra "zU")).append (.cons (.tuple (by k_mem) (.cons (.str _ _) (.cons (.int _ _) (.cons (.str _ _) .nil)))) .nil))) (by intro q hq; rcases List.mem_cons.mp hq with rfl | hq; (· k_mem); (· have := hs0 q hq; k_mem)) (hPQ _ hp') B F9 X N9 T' hd hu)
  · rename (_ = false) => hc
    have hw : d' = 1 ∨ d' = 2 := by simp at hc; omega
    rename (Fr _ _ _ _) => F9; rename (News _ _ _ _) => N9
    ((k_extra "V1"; rcases hw with rfl | rfl) <;> k_extra "V2")
    · have hE2 := hEnd 1 (by decide) (by decide)
      ((k_extra "V1"; rcases three_at hM with ⟨hi, rfl⟩ | ⟨hi, rfl⟩ | ⟨hi, rfl⟩) <;> k_extra "V2")
      · exact (fr10 (hSn.mono (by k_extra "zU")) hE2 (by k_extra "NX") (by k_extra "NX") (by k_extra "NX") (by k_extra "NX") (VIn.dict (by k_mem) (by with_reducible assumption) loF (ves_put (hes.mono (by k_extra "zU")) hk (.dict (by k_mem) (by with_reducible assumption) (by with_reducible assumption) .nil))) (.list (by k_mem) (by rw [show resDue 1 idx = [] from rfl, List.append_nil]; exact hE.mono (by k_extra "zU"))) (by intro q hq; rcases List.mem_cons.mp hq with rfl | hq; (· k_mem); (· have := hs0 q hq; k_mem)) (hPQ _ hp') B F9 X N9 T' hd hu)
      · exact absurd hi (by decide)
      · exact absurd hi (by decide)
    · have hE2 := hEnd 2 (by decide) (by decide)
      ((k_extra "V1"; rcases three_at hM with ⟨hi, rfl⟩ | ⟨hi, rfl⟩ | ⟨hi, rfl⟩) <;> k_extra "V2")
      · exact absurd hi (by decide)
      · exact (fr10 (hSn.mono (by k_extra "zU")) hE2 (by k_extra "NX") (by k_extra "NX") (by k_extra "NX") (by k_extra "NX") (VIn.dict (by k_mem) (by with_reducible assumption) loF (ves_put (hes.mono (by k_extra "zU")) hk (.ref (by k_mem) (by k_mem)))) (.list (by k_mem) (by rw [show resDue 2 idx = [] from rfl, List.append_nil]; exact hE.mono (by k_extra "zU"))) (by intro q hq; rcases List.mem_cons.mp hq with rfl | hq; (· k_mem); (· have := hs0 q hq; k_mem)) (hPQ _ hp') B F9 X N9 T' hd hu)
      · exact absurd hi (by decide)
  · have hw : d' = 0 := by omega
    subst hw
    have hE2 := hEnd 0 (by decide) (by decide)
    rename (Fr _ _ _ _) => F9; rename (News _ _ _ _) => N9; simp only [List.push_toArray] at N9
    exact (fr10 (hSn.mono (by k_extra "zU")) hE2 (by k_extra "NX") (by k_extra "NX") (by k_extra "NX") (by k_extra "NX") (VIn.dict (by k_mem) (by with_reducible assumption) loF (by rw [show resE 0 = [] from rfl, List.append_nil]; exact hes.mono (by k_extra "zU"))) (.list (by k_mem) (by rw [List.map_append]; exact (hE.mono (by k_extra "zU")).append (.cons (.tuple (by k_mem) (.cons (.str _ _) (.cons (.int _ _) (.cons (.str _ _) .nil)))) .nil))) (by intro q hq; rcases List.mem_cons.mp hq with rfl | hq; (· k_mem); (· have := hs0 q hq; k_mem)) (hPQ _ hp') B F9 X N9 T' hd hu)
  · rename (_ = false) => hc
    exfalso
    simp at hc
    omega
  )
  k_extra "GG"
theorem fr6 {vM : Value} {d : PV} {b : Bool} (hSn : Shelved w n S tab []) (hC : PenC p c oc) (hc : (c, oc) ∈ n) (ho : PenInv c NN o) (hNN : NN ≤ 100000) (m0 : m "pen" = some (.ref p)) (m1 : m "shelf" = some (.ref S)) (m2 : m "index" = some (.int idx ti)) (m3 : m "fields" = some (.ref FD)) (m4 : m "due" = some (.ref E)) (m5 : m "turn" = some vM) (hv : VIn w n vM d) (hdb : (d, b) ∈ turnCases)
    (hF : oF.IsDictOf (PySem.strKind PG w) kvF) (loF : (FD == sysModules) = false) (hes : VEs w n kvF es) (hle : es.length ≤ 9) (hk : ∀ e ∈ es, e.1 ≠ "Resources" ∧ e.1 ≠ "Rotate") (hE : DatAll n dv (rows.map rowD)) (hdl : dv.length ≤ 799)
    (o1 : ∀ q ∈ n, q.1 ≠ p) (o2 : ∀ q ∈ n, q.1 ≠ FD) (o3 : ∀ q ∈ n, q.1 ≠ E) (pF : p ≠ FD) (pE : p ≠ E) (fE : FD ≠ E)
    (hEnd : ∀ way : Int, 0 ≤ way → way < 4 → FldOk tab ((es ++ turnE d) ++ resE way) idx ((rows ++ turnDue b idx) ++ resDue way idx)) (hs0 : ∀ q ∈ fr, q ∈ n) (hPQ : ∀ o', PenInv c (NN + 1) o' → PQ (.bool true) ((p, o') :: fr))
    (B : Below A₀ base outer g) (F : Fr g L h m) (X : (K w.params).In g) (N : News g L h ((p, o) :: (FD, oF) :: (E, listOf (List.toArray dv) nd) :: n)) (T' : TopV mean mg mb g) (hd : dp + 290 < recursionLimit) (hu : un + 1500 < cLine) : FRW w dp un gd outer g s L PQ 6 h tk := by
  (k_with "GO" =>
  have hkl := ves_len hes
  unfold FRW
  dsimp only [F496, List.drop]
  ((k_extra "V1"; rcases turn_cases hdb with ⟨rfl, rfl⟩ | ⟨k, rfl, rfl⟩ | ⟨rfl, rfl⟩ | ⟨rfl, rfl⟩) <;> k_extra "V2")
  · ((k_extra "V1"; cases hv) <;> k_extra "V2")
    repeat' (k_extra "zS"; (fail_if_success (with_reducible show wpAny _ _ (execs [_, _, _, _, _] _) _ _ _)); first | k_extra "zP" | k_extra "zN" | k_extra "SETF" | k_extra "zQ")
    rename (Fr _ _ _ _) => F9; rename (News _ _ _ _) => N9
    have N8 := news_spl3 (a := (p, _)) (b := (FD, _)) (c := (E, _)) (fr := n) N9 (by repeat (first | exact splC3 | apply SplC.cons | apply SplC.app))
    exact fr7 (es := es ++ turnE .none) (rows := rows ++ turnDue false idx) (hSn.mono (by k_extra "zU")) hC (List.mem_append_right _ hc) ho hNN (by k_extra "NX") (by k_extra "NX") (by k_extra "NX") (by k_extra "NX") (by k_extra "NX") hF loF (by rw [show turnE .none = [] from rfl, List.append_nil]; exact hes.mono (by k_extra "zU")) (by rw [show turnE .none = [] from rfl, List.append_nil]; omega) (fun e he => (hk e (by rw [show turnE .none = [] from rfl, List.append_nil] at he; exact he)).1) (by rw [show turnDue false idx = [] from rfl, List.append_nil]; exact hE.mono (by k_extra "zU")) (by omega) (by k_all) (by k_all) (by k_all) pF pE fE hEnd (fun q hq => List.mem_append_right _ (hs0 q hq)) hPQ B F9 X N8 T' hd hu
  · ((k_extra "V1"; cases hv) <;> k_extra "V2")
    repeat' (k_extra "zS"; (fail_if_success (with_reducible show wpAny _ _ (execs [_, _, _, _, _] _) _ _ _)); first | k_extra "zP" | k_extra "zN" | k_extra "SETF" | k_extra "zQ")
    · rename (_ = true) => hb
      rw [hb] at hEnd
      rename (Fr _ _ _ _) => F9; rename (News _ _ _ _) => N9; simp only [List.push_toArray] at N9
      have N8 := news_spl3 (a := (p, _)) (b := (FD, _)) (c := (E, _)) (fr := n) N9 (by repeat (first | exact splC3 | apply SplC.cons | apply SplC.app))
      exact fr7 (es := es ++ turnE (.int k)) (rows := rows ++ turnDue true idx) (hSn.mono (by k_extra "zU")) hC (List.mem_append_right _ hc) ho hNN (by k_extra "NX") (by k_extra "NX") (by k_extra "NX") (by k_extra "NX") (by k_extra "NX") hd9 loF (ves_put (hes.mono (by k_extra "zU")) (fun e he => (hk e he).2) (.int _ _)) (by rw [List.length_append]; exact Nat.succ_le_succ hle) (rot_keys hk) (by rw [List.map_append]; exact (hE.mono (by k_extra "zU")).append (.cons (.tuple (by k_mem) (.cons (.str _ _) (.cons (.int _ _) (.cons (.str _ _) .nil)))) .nil)) (by rw [List.length_append]; exact Nat.succ_le_succ hdl) (by k_all) (by k_all) (by k_all) pF pE fE hEnd (fun q hq => List.mem_append_right _ (hs0 q hq)) hPQ B F9 X N8 T' hd hu
    · rename (_ = false) => hb
      rw [hb] at hEnd
      rename (Fr _ _ _ _) => F9; rename (News _ _ _ _) => N9
      have N8 := news_spl3 (a := (p, _)) (b := (FD, _)) (c := (E, _)) (fr := n) N9 (by repeat (first | exact splC3 | apply SplC.cons | apply SplC.app))
      exact fr7 (es := es ++ turnE (.int k)) (rows := rows ++ turnDue false idx) (hSn.mono (by k_extra "zU")) hC (List.mem_append_right _ hc) ho hNN (by k_extra "NX") (by k_extra "NX") (by k_extra "NX") (by k_extra "NX") (by k_extra "NX") hd9 loF (ves_put (hes.mono (by k_extra "zU")) (fun e he => (hk e he).2) (.int _ _)) (by rw [List.length_append]; exact Nat.succ_le_succ hle) (rot_keys hk) (by rw [show turnDue false idx = [] from rfl, List.append_nil]; exact hE.mono (by k_extra "zU")) (by omega) (by k_all) (by k_all) (by k_all) pF pE fE hEnd (fun q hq => List.mem_append_right _ (hs0 q hq)) hPQ B F9 X N8 T' hd hu
  · k_extra "V0"
    cases hv with
    | dec hv1 hv2 =>
    k_extra "V2"
    repeat' (k_extra "zS"; (fail_if_success (with_reducible show wpAny _ _ (execs [_, _, _, _, _] _) _ _ _)); first | k_extra "zP" | k_extra "zN" | k_extra "SETF" | k_extra "zQ")
    rename (Fr _ _ _ _) => F9; rename (News _ _ _ _) => N9; simp only [List.push_toArray] at N9
    have N8 := news_spl3 (a := (p, _)) (b := (FD, _)) (c := (E, _)) (fr := n) N9 (by repeat (first | exact splC3 | apply SplC.cons | apply SplC.app))
    exact fr7 (es := es ++ turnE (.dec 1 1)) (rows := rows ++ turnDue true idx) (hSn.mono (by k_extra "zU")) hC (List.mem_append_right _ hc) ho hNN (by k_extra "NX") (by k_extra "NX") (by k_extra "NX") (by k_extra "NX") (by k_extra "NX") hd9 loF (ves_put (hes.mono (by k_extra "zU")) (fun e he => (hk e he).2) (.dec (by k_mem) (by k_mem))) (by rw [List.length_append]; exact Nat.succ_le_succ hle) (rot_keys hk) (by rw [List.map_append]; exact (hE.mono (by k_extra "zU")).append (.cons (.tuple (by k_mem) (.cons (.str _ _) (.cons (.int _ _) (.cons (.str _ _) .nil)))) .nil)) (by rw [List.length_append]; exact Nat.succ_le_succ hdl) (by k_all) (by k_all) (by k_all) pF pE fE hEnd (fun q hq => List.mem_append_right _ (hs0 q hq)) hPQ B F9 X N8 T' hd hu
  · ((k_extra "V1"; cases hv) <;> k_extra "V2")
    repeat' (k_extra "zS"; (fail_if_success (with_reducible show wpAny _ _ (execs [_, _, _, _, _] _) _ _ _)); first | k_extra "zP" | k_extra "zN" | k_extra "SETF" | k_extra "zQ")
    rename (Fr _ _ _ _) => F9; rename (News _ _ _ _) => N9; simp only [List.push_toArray] at N9
    have N8 := news_spl3 (a := (p, _)) (b := (FD, _)) (c := (E, _)) (fr := n) N9 (by repeat (first | exact splC3 | apply SplC.cons | apply SplC.app))
    exact fr7 (es := es ++ turnE (.bool true)) (rows := rows ++ turnDue true idx) (hSn.mono (by k_extra "zU")) hC (List.mem_append_right _ hc) ho hNN (by k_extra "NX") (by k_extra "NX") (by k_extra "NX") (by k_extra "NX") (by k_extra "NX") hd9 loF (ves_put (hes.mono (by k_extra "zU")) (fun e he => (hk e he).2) (.bool _)) (by rw [List.length_append]; exact Nat.succ_le_succ hle) (rot_keys hk) (by rw [List.map_append]; exact (hE.mono (by k_extra "zU")).append (.cons (.tuple (by k_mem) (.cons (.str _ _) (.cons (.int _ _) (.cons (.str _ _) .nil)))) .nil)) (by rw [List.length_append]; exact Nat.succ_le_succ hdl) (by k_all) (by k_all) (by k_all) pF pE fE hEnd (fun q hq => List.mem_append_right _ (hs0 q hq)) hPQ B F9 X N8 T' hd hu
  )
  k_extra "GG"
theorem fr5 (hSn : Shelved w n S tab []) (hC : PenC p c oc) (hc : (c, oc) ∈ n) (ho : PenInv c NN o) (hNN : NN ≤ 90000) (m0 : m "pen" = some (.ref p)) (m1 : m "shelf" = some (.ref S)) (m2 : m "index" = some (.int idx ti)) (m3 : m "fields" = some (.ref FD)) (m4 : m "due" = some (.ref E))
    (hF : oF.IsDictOf (PySem.strKind PG w) kvF) (loF : (FD == sysModules) = false) (hes : VEs w n kvF es) (hle : es.length ≤ 9) (hk : ∀ e ∈ es, e.1 ≠ "Resources" ∧ e.1 ≠ "Rotate") (hE : DatAll n dv (rows.map rowD)) (hdl : dv.length ≤ 799)
    (o1 : ∀ q ∈ n, q.1 ≠ p) (o2 : ∀ q ∈ n, q.1 ≠ FD) (o3 : ∀ q ∈ n, q.1 ≠ E) (pF : p ≠ FD) (pE : p ≠ E) (fE : FD ≠ E)
    (hEnd : ∀ (d : PV) (b : Bool), (d, b) ∈ turnCases → ∀ way : Int, 0 ≤ way → way < 4 → FldOk tab ((es ++ turnE d) ++ resE way) idx ((rows ++ turnDue b idx) ++ resDue way idx)) (hs0 : ∀ q ∈ fr, q ∈ n) (hPQ : ∀ o', PenInv c (NN + 2) o' → PQ (.bool true) ((p, o') :: fr))
    (B : Below A₀ base outer g) (F : Fr g L h m) (X : (K w.params).In g) (N : News g L h ((p, o) :: (FD, oF) :: (E, listOf (List.toArray dv) nd) :: n)) (T' : TopV mean mg mb g) (hd : dp + 290 < recursionLimit) (hu : un + 1500 < cLine) : FRW w dp un gd outer g s L PQ 5 h tk := by
  (k_with "GO" =>
  have hkl := ves_len hes
  unfold FRW
  dsimp only [F496, List.drop]
  repeat' (k_extra "zS"; (fail_if_success (with_reducible show wpAny _ _ (execs [_, _, _, _, _, _] _) _ _ _)); first | k_extra "zP" | k_extra "zN" | k_extra "NEWD" | ((with_reducible show wpAny _ _ (subscriptTail _ _ (Value.ref _) (Value.int _ _)) _ _ _); refine item_menu (News.isList (by k_asm) (by k_mem)) (by omega) (by simp only [List.length_cons, List.length_nil]; omega) (by simp only [List.length_cons, List.length_nil]; omega) ?_; intro vM hM) | k_extra "zQ")
  rename (PenInv _ _ _) => hp2
  rename (Fr _ _ _ _) => F9; rename (News _ _ _ _) => N9
  have N8 := news_spl3 (a := (p, _)) (b := (FD, _)) (c := (E, _)) (fr := n) N9 (by repeat (first | exact splC3 | apply SplC.cons | apply SplC.app))
  ((k_extra "V1"; rcases nine_at hM with rfl | rfl | rfl | rfl | rfl | rfl | rfl | rfl | rfl) <;> k_extra "V2")
  · exact fr6 (d := .none) (b := false) (hSn.mono (by k_extra "zU")) hC (List.mem_append_right _ hc) hp2 (by omega) (by k_extra "NX") (by k_extra "NX") (by k_extra "NX") (by k_extra "NX") (by k_extra "NX") (by k_extra "NX") .none (by repeat (first | exact List.Mem.head _ | apply List.Mem.tail)) hF loF (hes.mono (by k_extra "zU")) hle hk (hE.mono (by k_extra "zU")) hdl (by k_all) (by k_all) (by k_all) pF pE fE (hEnd _ _ (by repeat (first | exact List.Mem.head _ | apply List.Mem.tail))) (fun q hq => List.mem_append_right _ (hs0 q hq)) (fun o' h => hPQ o' (by rwa [Int.add_assoc] at h)) B F9 X N8 T' hd hu
  · exact fr6 (d := (.int 0)) (b := false) (hSn.mono (by k_extra "zU")) hC (List.mem_append_right _ hc) hp2 (by omega) (by k_extra "NX") (by k_extra "NX") (by k_extra "NX") (by k_extra "NX") (by k_extra "NX") (by k_extra "NX") (.int _ _) (by repeat (first | exact List.Mem.head _ | apply List.Mem.tail)) hF loF (hes.mono (by k_extra "zU")) hle hk (hE.mono (by k_extra "zU")) hdl (by k_all) (by k_all) (by k_all) pF pE fE (hEnd _ _ (by repeat (first | exact List.Mem.head _ | apply List.Mem.tail))) (fun q hq => List.mem_append_right _ (hs0 q hq)) (fun o' h => hPQ o' (by rwa [Int.add_assoc] at h)) B F9 X N8 T' hd hu
  · exact fr6 (d := (.int 90)) (b := false) (hSn.mono (by k_extra "zU")) hC (List.mem_append_right _ hc) hp2 (by omega) (by k_extra "NX") (by k_extra "NX") (by k_extra "NX") (by k_extra "NX") (by k_extra "NX") (by k_extra "NX") (.int _ _) (by repeat (first | exact List.Mem.head _ | apply List.Mem.tail)) hF loF (hes.mono (by k_extra "zU")) hle hk (hE.mono (by k_extra "zU")) hdl (by k_all) (by k_all) (by k_all) pF pE fE (hEnd _ _ (by repeat (first | exact List.Mem.head _ | apply List.Mem.tail))) (fun q hq => List.mem_append_right _ (hs0 q hq)) (fun o' h => hPQ o' (by rwa [Int.add_assoc] at h)) B F9 X N8 T' hd hu
  · exact fr6 (d := (.int (-270))) (b := false) (hSn.mono (by k_extra "zU")) hC (List.mem_append_right _ hc) hp2 (by omega) (by k_extra "NX") (by k_extra "NX") (by k_extra "NX") (by k_extra "NX") (by k_extra "NX") (by k_extra "NX") (.int _ _) (by repeat (first | exact List.Mem.head _ | apply List.Mem.tail)) hF loF (hes.mono (by k_extra "zU")) hle hk (hE.mono (by k_extra "zU")) hdl (by k_all) (by k_all) (by k_all) pF pE fE (hEnd _ _ (by repeat (first | exact List.Mem.head _ | apply List.Mem.tail))) (fun q hq => List.mem_append_right _ (hs0 q hq)) (fun o' h => hPQ o' (by rwa [Int.add_assoc] at h)) B F9 X N8 T' hd hu
  · exact fr6 (d := (.int 45)) (b := true) (hSn.mono (by k_extra "zU")) hC (List.mem_append_right _ hc) hp2 (by omega) (by k_extra "NX") (by k_extra "NX") (by k_extra "NX") (by k_extra "NX") (by k_extra "NX") (by k_extra "NX") (.int _ _) (by repeat (first | exact List.Mem.head _ | apply List.Mem.tail)) hF loF (hes.mono (by k_extra "zU")) hle hk (hE.mono (by k_extra "zU")) hdl (by k_all) (by k_all) (by k_all) pF pE fE (hEnd _ _ (by repeat (first | exact List.Mem.head _ | apply List.Mem.tail))) (fun q hq => List.mem_append_right _ (hs0 q hq)) (fun o' h => hPQ o' (by rwa [Int.add_assoc] at h)) B F9 X N8 T' hd hu
  · exact fr6 (d := (.int 91)) (b := true) (hSn.mono (by k_extra "zU")) hC (List.mem_append_right _ hc) hp2 (by omega) (by k_extra "NX") (by k_extra "NX") (by k_extra "NX") (by k_extra "NX") (by k_extra "NX") (by k_extra "NX") (.int _ _) (by repeat (first | exact List.Mem.head _ | apply List.Mem.tail)) hF loF (hes.mono (by k_extra "zU")) hle hk (hE.mono (by k_extra "zU")) hdl (by k_all) (by k_all) (by k_all) pF pE fE (hEnd _ _ (by repeat (first | exact List.Mem.head _ | apply List.Mem.tail))) (fun q hq => List.mem_append_right _ (hs0 q hq)) (fun o' h => hPQ o' (by rwa [Int.add_assoc] at h)) B F9 X N8 T' hd hu
  · exact fr6 (d := (.dec 1 1)) (b := true) (hSn.mono (by k_extra "zU")) hC (List.mem_append_right _ hc) hp2 (by omega) (by k_extra "NX") (by k_extra "NX") (by k_extra "NX") (by k_extra "NX") (by k_extra "NX") (by k_extra "NX") (.dec (by k_mem) (by k_mem)) (by repeat (first | exact List.Mem.head _ | apply List.Mem.tail)) hF loF (hes.mono (by k_extra "zU")) hle hk (hE.mono (by k_extra "zU")) hdl (by k_all) (by k_all) (by k_all) pF pE fE (hEnd _ _ (by repeat (first | exact List.Mem.head _ | apply List.Mem.tail))) (fun q hq => List.mem_append_right _ (hs0 q hq)) (fun o' h => hPQ o' (by rwa [Int.add_assoc] at h)) B F9 X N8 T' hd hu
  · exact fr6 (d := (.bool true)) (b := true) (hSn.mono (by k_extra "zU")) hC (List.mem_append_right _ hc) hp2 (by omega) (by k_extra "NX") (by k_extra "NX") (by k_extra "NX") (by k_extra "NX") (by k_extra "NX") (by k_extra "NX") (.bool _) (by repeat (first | exact List.Mem.head _ | apply List.Mem.tail)) hF loF (hes.mono (by k_extra "zU")) hle hk (hE.mono (by k_extra "zU")) hdl (by k_all) (by k_all) (by k_all) pF pE fE (hEnd _ _ (by repeat (first | exact List.Mem.head _ | apply List.Mem.tail))) (fun q hq => List.mem_append_right _ (hs0 q hq)) (fun o' h => hPQ o' (by rwa [Int.add_assoc] at h)) B F9 X N8 T' hd hu
  · exact fr6 (d := (.int 450)) (b := false) (hSn.mono (by k_extra "zU")) hC (List.mem_append_right _ hc) hp2 (by omega) (by k_extra "NX") (by k_extra "NX") (by k_extra "NX") (by k_extra "NX") (by k_extra "NX") (by k_extra "NX") (.int _ _) (by repeat (first | exact List.Mem.head _ | apply List.Mem.tail)) hF loF (hes.mono (by k_extra "zU")) hle hk (hE.mono (by k_extra "zU")) hdl (by k_all) (by k_all) (by k_all) pF pE fE (hEnd _ _ (by repeat (first | exact List.Mem.head _ | apply List.Mem.tail))) (fun q hq => List.mem_append_right _ (hs0 q hq)) (fun o' h => hPQ o' (by rwa [Int.add_assoc] at h)) B F9 X N8 T' hd hu
  )
  k_extra "GG"
end fr
def noneDue (k : Str) (idx : Int) : List (Str × Int × Str) := if k = Str.ofString "MediaBox" then [fnd "field" idx "no MediaBox"] else []
def boxDue (b : Bool) (k : Str) (idx : Int) : List (Str × Int × Str) := if b = true then [] else [fnd "field" idx (k ++ Str.ofString " is no list of four numbers")]
inductive FLaid (idx : Int) : Nat → List (Int × Int × PV) → List (Str × PV) → List (Str × Int × Str) → Prop
  | zero : FLaid idx 0 [(1, 0, .dec 7 2), (2, 0, .dict [])] [] []
  | gone {i : Nat} {t : List (Int × Int × PV)} {es : List (Str × PV)} {rows : List (Str × Int × Str)} {k : Str} : FLaid idx i t es rows → keysB[i]? = some k → FLaid idx (i + 1) t es (rows ++ noneDue k idx)
  | here {i : Nat} {t : List (Int × Int × PV)} {es : List (Str × PV)} {rows : List (Str × Int × Str)} {k : Str} {d : PV} {b : Bool} : FLaid idx i t es rows → keysB[i]? = some k → (d, b) ∈ boxCases → d ≠ .none → FLaid idx (i + 1) t (es ++ [(k, d)]) (rows ++ boxDue b k idx)
  | byref {i : Nat} {t : List (Int × Int × PV)} {es : List (Str × PV)} {rows : List (Str × Int × Str)} {k : Str} {d : PV} {b : Bool} : FLaid idx i t es rows → keysB[i]? = some k → (d, b) ∈ boxCases → d ≠ .none → FLaid idx (i + 1) (t ++ [((k.length : Int), 0, d)]) (es ++ [(k, .ref (k.length : Int) 0)]) (rows ++ boxDue b k idx)
theorem keysB_at {i : Nat} {k : Str} (h : keysB[i]? = some k) : (i = 0 ∧ k = Str.ofString "MediaBox" ∧ k.length = 8) ∨ (i = 1 ∧ k = Str.ofString "CropBox" ∧ k.length = 7) := by
  ((k_extra "V1"; rcases i with _ | _ | i) <;> k_extra "V2")
  · have e := (Option.some.inj h).symm; subst e; exact .inl ⟨rfl, rfl, by decide +kernel⟩
  · have e := (Option.some.inj h).symm; subst e; exact .inr ⟨rfl, rfl, by decide +kernel⟩
  · simp [keysB] at h
theorem FLaid.facts {idx : Int} {i : Nat} {t : List (Int × Int × PV)} {es : List (Str × PV)} {rows : List (Str × Int × Str)} (H : FLaid idx i t es rows) : t.length ≤ 2 + i ∧ es.length ≤ i ∧ rows.length ≤ i ∧ (∀ x : Int, x ≠ 1 → x ≠ 2 → (i = 0 ∨ x ≠ 8) → (i ≤ 1 ∨ x ≠ 7) → tabAt t x = none) ∧ ∀ e ∈ es, ∃ j, j < i ∧ keysB[j]? = some e.1 := by
  have nd : ∀ k, (noneDue k idx).length ≤ 1 := by intro k; unfold noneDue; split <;> simp
  have bd : ∀ b k, (boxDue b k idx).length ≤ 1 := by intro b k; unfold boxDue; split <;> simp
  induction H with
  | zero => exact ⟨by simp, by simp, by simp, fun x h1 h2 _ _ => by rw [tabAt, if_neg (Ne.symm h1), tabAt, if_neg (Ne.symm h2)]; rfl, by simp⟩
  | @gone i t es rows k _ hk ih =>
    have H5 : ∀ e ∈ es, ∃ j, j < i + 1 ∧ keysB[j]? = some e.1 := fun e he => (ih.2.2.2.2 e he).imp fun _ h => ⟨Nat.lt_succ_of_lt h.1, h.2⟩
    exact ⟨Nat.le_succ_of_le ih.1, Nat.le_succ_of_le ih.2.1, by rw [List.length_append]; exact Nat.add_le_add ih.2.2.1 (nd k), fun x h1 h2 h3 h4 => ih.2.2.2.1 x h1 h2 (h3.elim (fun e => absurd e (Nat.succ_ne_zero _)) .inr) (h4.imp Nat.le_of_succ_le id), H5⟩
  | @here i t es rows k d b _ hk _ _ ih =>
    have H5 : ∀ e ∈ es, ∃ j, j < i + 1 ∧ keysB[j]? = some e.1 := fun e he => (ih.2.2.2.2 e he).imp fun _ h => ⟨Nat.lt_succ_of_lt h.1, h.2⟩
    exact ⟨Nat.le_succ_of_le ih.1, by rw [List.length_append]; exact Nat.succ_le_succ ih.2.1, by rw [List.length_append]; exact Nat.add_le_add ih.2.2.1 (bd b k), fun x h1 h2 h3 h4 => ih.2.2.2.1 x h1 h2 (h3.elim (fun e => absurd e (Nat.succ_ne_zero _)) .inr) (h4.imp Nat.le_of_succ_le id), fun e he => (List.mem_append.mp he).elim (H5 e) fun he => ⟨i, Nat.lt_succ_self i, by rw [List.mem_singleton.mp he]; exact hk⟩⟩
  | @byref i t es rows k d b _ hk _ _ ih =>
    have H5 : ∀ e ∈ es, ∃ j, j < i + 1 ∧ keysB[j]? = some e.1 := fun e he => (ih.2.2.2.2 e he).imp fun _ h => ⟨Nat.lt_succ_of_lt h.1, h.2⟩
    refine ⟨by rw [List.length_append]; exact Nat.succ_le_succ ih.1, by rw [List.length_append]; exact Nat.succ_le_succ ih.2.1, by rw [List.length_append]; exact Nat.add_le_add ih.2.2.1 (bd b k), fun x h1 h2 h3 h4 => ?_, fun e he => (List.mem_append.mp he).elim (H5 e) fun he => ⟨i, Nat.lt_succ_self i, by rw [List.mem_singleton.mp he]; exact hk⟩⟩
    rw [tabAt_append (ih.2.2.2.1 x h1 h2 (h3.elim (fun e => absurd e (Nat.succ_ne_zero _)) .inr) (h4.imp Nat.le_of_succ_le id)), tabAt, if_neg]
    · rfl
    · ((k_extra "V1"; rcases keysB_at hk with ⟨rfl, _, e⟩ | ⟨rfl, _, e⟩) <;> k_extra "V2")
      · rw [e]; exact (h3.resolve_left (by decide)).symm
      · rw [e]; exact (h4.resolve_left (by decide)).symm
theorem FLaid.fresh {idx : Int} {i : Nat} {t : List (Int × Int × PV)} {es : List (Str × PV)} {rows : List (Str × Int × Str)} (H : FLaid idx i t es rows) {k : Str} (hk : keysB[i]? = some k) : tabAt t (k.length : Int) = none ∧ ∀ e ∈ es, e.1 ≠ k := by
  ((k_extra "V1"; obtain ⟨_, _, _, h4, h5⟩ := H.facts) <;> k_extra "V2")
  ((k_extra "V1"; rcases keysB_at hk with ⟨rfl, rfl, e⟩ | ⟨rfl, rfl, e⟩) <;> k_extra "V2")
  · exact ⟨h4 _ (by omega) (by omega) (by omega) (by omega), fun x hx => by obtain ⟨j, hj, _⟩ := h5 x hx; omega⟩
  · refine ⟨h4 _ (by omega) (by omega) (by omega) (by omega), fun x hx => ?_⟩
    ((k_extra "V1"; obtain ⟨j, hj, hj2⟩ := h5 x hx) <;> k_extra "V2")
    ((k_extra "V1"; rcases keysB_at hj2 with ⟨rfl, e2, _⟩ | ⟨rfl, _, _⟩) <;> k_extra "V2")
    · rw [e2]; decide +kernel
    · omega
theorem ves_put2 {w : World} {n : List (Addr × Obj)} {k : Str} {v v' : Value} {d : PV} {kvs : List (Str × Value)} {es : List (Str × PV)} (h : VEs w n kvs es) (hk : ∀ e ∈ es, e.1 ≠ k) (hv : VIn w n v' d) : VEs w n (stored (stored kvs k v) k v') (es ++ [(k, d)]) := by
  have hne : ∀ q ∈ kvs, q.1 ≠ k := by
    intro q hq
    have h1 : q.1 ∈ es.map (·.1) := by rw [← ves_keys h]; exact List.mem_map_of_mem hq
    ((k_extra "V1"; obtain ⟨e, he, e2⟩ := List.mem_map.mp h1) <;> k_extra "V2")
    rw [← e2]; exact hk e he
  rw [stored_absent (ves_none h hk)]
  unfold stored
  rw [if_pos (by simp), List.map_append]
  have e1 : (kvs.map fun kv => if kv.1 = k then (kv.1, v') else kv) = kvs := by
    refine (List.map_congr_left (g := id) fun q hq => ?_).trans (List.map_id _)
    rw [if_neg (hne q hq)]; rfl
  rw [e1]
  refine ves_append h ?_
  simp only [List.map_cons, List.map_nil, if_true]
  exact .cons hv .nil
inductive FSt2 (w : World) (p c S T FD E : Addr) (idx : Int) (ti : Tok) (n1 : List (Addr × Obj)) (NN : Int) (i : Nat) (m : Str → Option Value) (nn : List (Addr × Obj)) : Prop
  | mk : ∀ o oT oF dv nd tl kvs kvF tab es rows, m "pen" = some (.ref p) → m "shelf" = some (.ref S) → m "fields" = some (.ref FD) → m "due" = some (.ref E) → m "index" = some (.int idx ti) → nn = (p, o) :: (T, oT) :: (FD, oF) :: (E, listOf (List.toArray dv) nd) :: (tl ++ n1) → PenInv c (NN + 20 * i) o → oT.IsDictOf (PySem.intKind PG w) kvs → oF.IsDictOf (PySem.strKind PG w) kvF → TabIn w (tl ++ n1) kvs tab → VEs w (tl ++ n1) kvF es → DatAll (tl ++ n1) dv (rows.map rowD) → FLaid idx i tab es rows → ((∀ q ∈ tl, q.1 ≠ p) ∧ (∀ q ∈ tl, q.1 ≠ T) ∧ (∀ q ∈ tl, q.1 ≠ FD) ∧ ∀ q ∈ tl, q.1 ≠ E) → FSt2 w p c S T FD E idx ti n1 NN i m nn
theorem perm_fin {i pc tc fc ec : Addr × Obj} {pre tl2 tl n1 : List (Addr × Obj)} : ∀ q ∈ i :: pc :: tc :: fc :: ec :: ((pre ++ (tl2 ++ tl)) ++ n1), q ∈ pc :: (pre ++ (tl2 ++ ([i] ++ tc :: fc :: ec :: (tl ++ n1)))) := by
  k_extra "zU"
theorem unr_fin {g h' : Heap} {L I : Addr} {it : Obj} {s₁ : Shared} {R : (Str → Option Value) → List (Addr × Obj) → Prop} {Q : Flow → Shared → Prop} {tk : Nat} {m' : Str → Option Value} {pc tc fc ec : Addr × Obj} {nl pre tl2 tl n1 : List (Addr × Obj)} (F : Fr g L h' m') (N : News g L h' nl) (S : SplC [pc] (tl2 ++ ([(I, it)] ++ tc :: fc :: ec :: (tl ++ n1))) nl pre)
    (off : ∀ q ∈ pc :: tc :: fc :: ec :: ((pre ++ (tl2 ++ tl)) ++ n1), q.1 ≠ I) (r : (∀ q ∈ pc :: tc :: fc :: ec :: ((pre ++ (tl2 ++ tl)) ++ n1), q.1 ≠ I) → R m' (pc :: tc :: fc :: ec :: ((pre ++ (tl2 ++ tl)) ++ n1))) : UnrPost g L s₁ I it R Q .next { s₁ with heap := h', toks := tk } :=
  unr_intro F (news_spl N S) _ perm_fin off (r off)
theorem sub_tn {pre tl2 tl n1 : List (Addr × Obj)} : ∀ q ∈ tl ++ n1, q ∈ (pre ++ (tl2 ++ tl)) ++ n1 := fun q hq => (List.mem_append.mp hq).elim (fun h => List.mem_append_left _ (List.mem_append_right _ (List.mem_append_right _ h))) fun h => List.mem_append_right _ h
theorem sub_t2 {pre tl2 tl n1 : List (Addr × Obj)} : ∀ q ∈ tl2, q ∈ (pre ++ (tl2 ++ tl)) ++ n1 := fun q h => List.mem_append_left _ (List.mem_append_right _ (List.mem_append_left _ h))
theorem sub_n1 {pc tc fc ec : Addr × Obj} {pre tl2 tl n1 : List (Addr × Obj)} : ∀ q ∈ n1, q ∈ pc :: tc :: fc :: ec :: ((pre ++ (tl2 ++ tl)) ++ n1) := fun q h => List.mem_cons_of_mem _ (List.mem_cons_of_mem _ (List.mem_cons_of_mem _ (List.mem_cons_of_mem _ (List.mem_append_right _ h))))
theorem mem_pre {x : Addr × Obj} {pre tl2 tl n1 : List (Addr × Obj)} (h : x ∈ pre) : x ∈ (pre ++ (tl2 ++ tl)) ++ n1 := List.mem_append_left _ (List.mem_append_left _ h)
theorem field_perm {g h : Heap} {L : Addr} {a0 a1 a2 a3 a4 a5 a6 a7 a8 a9 b0 b1 b2 : Addr × Obj} {fr : List (Addr × Obj)} (N : News g L h (a0 :: a1 :: a2 :: a3 :: a4 :: a5 :: a6 :: a7 :: a8 :: a9 :: b0 :: b1 :: b2 :: fr)) : News g L h (b2 :: b1 :: a2 :: a1 :: (a3 :: a4 :: a5 :: a6 :: a7 :: a8 :: a9 :: b0 :: fr)) := news_sub N (by k_extra "zU")
section fr
variable {w : World} {S T TR p c FD E : Addr} {n1 : List (Addr × Obj)} {idx : Int} {ti : Tok} {oc : Obj} {NN : Int}
  {dp un : Nat} {gd : Option (List Code)} {outer : List Env} {A₀ : Around} {base g : Heap} {mean : ExcName → Option Value} {mg mb : Str → Option Value} {L : Addr} {s : Shared}
theorem fr4turn (hC : PenC p c oc) (hc : (c, oc) ∈ n1) (hNN : NN ≤ 80000) (hS : ShelfAt w n1 S T TR)
    (o1 : ∀ q ∈ n1, q.1 ≠ p) (o2 : ∀ q ∈ n1, q.1 ≠ T) (o3 : ∀ q ∈ n1, q.1 ≠ FD) (o4 : ∀ q ∈ n1, q.1 ≠ E) (pT : p ≠ T) (pF : p ≠ FD) (pE : p ≠ E) (tF : T ≠ FD) (tE : T ≠ E) (fE : FD ≠ E)
    {i : Nat} {m₁ : Str → Option Value} {nn : List (Addr × Obj)} {k : Str} (hk : keysB[i]? = some k) (hL : FSt2 w p c S T FD E idx ti n1 NN i m₁ nn) {I : Addr} (oI : ∀ q ∈ nn, q.1 ≠ I) {it : Obj} {t : Tok} {h1 : Heap} {tk1 : Nat} {x : Str} (hx : x = "key") {Q : Flow → Shared → Prop}
    (B : Below A₀ base outer g) (F1 : Fr g L h1 (fun y => if y = x then some (.str k t) else m₁ y)) (X : (K w.params).In g) (N1 : News g L h1 ((I, it) :: nn)) (T' : TopV mean mg mb g) (hd : dp + 290 < recursionLimit) (hu : un + 1500 < cLine) {J' : (Str → Option Value) → List (Addr × Obj) → Prop} (hJ' : ∀ m' n', (∀ q ∈ n1, q ∈ n') → FSt2 w p c S T FD E idx ti n1 NN (i + 1) m' n' → (∀ q ∈ n', q.1 ≠ I) → J' m' n') :
    wpAny (model PG w) (ktrTop dp un gd "_law_fields_right" F496.1.2.2 L 496 (.ref 495) [] outer) (execs (match F496.1.2.1 with | [_, _, _, _, .For _ _ b _ _, _, _, _, _, _, _, _] => b | _ => []) (envOf "_law_fields_right" F496.1.2.2 L 496 (.ref 495))) (UnrPost g L { s with heap := h1, toks := tk1 } I it J' Q) (fun _ _ => False) { s with heap := h1, toks := tk1 } := by
  (k_with "GO" =>
  ((k_extra "V1"; obtain ⟨o, oT, oF, dv, nd, tl, kvs, kvF, tab, es, rows, g1, g2, g3, g4, g5, rfl, ho, hT, hF, htab, hes, hdv, hLd, ⟨t1, t2, t3, t4⟩⟩ := hL) <;> k_extra "V2")
  subst hx
  ((k_extra "V1"; obtain ⟨sd, tS, tS', nS, hS1, hS2⟩ := id hS) <;> k_extra "V2")
  ((k_extra "V1"; obtain ⟨lt, le, ll, -, -⟩ := hLd.facts) <;> k_extra "V2")
  ((k_extra "V1"; obtain ⟨hfr, hfe⟩ := hLd.fresh hk) <;> k_extra "V2")
  have hk8 : k.length ≤ 8 := by rcases keysB_at hk with ⟨_, _, e⟩ | ⟨_, _, e⟩ <;> omega
  have hi : i < 2 := by rcases keysB_at hk with ⟨e, _⟩ | ⟨e, _⟩ <;> omega
  have hkl := tab_length htab
  have hfl := ves_len hes
  have hdl := hdv.length
  rw [List.length_map] at hdl
  have I1 : p ≠ I := oI (p, _) (by k_mem)
  have I2 : T ≠ I := oI (T, _) (by k_mem)
  have I3 : FD ≠ I := oI (FD, _) (by k_mem)
  have I4 : E ≠ I := oI (E, _) (by k_mem)
  have I5 : ∀ q ∈ tl, q.1 ≠ I := fun q hq => oI q (by k_mem)
  have I6 : ∀ q ∈ n1, q.1 ≠ I := fun q hq => oI q (by k_mem)
  dsimp only [F496]
  repeat' (k_extra "zS"; (fail_if_success (with_reducible show wpAny _ _ (call (Value.ref 491) _) _ _ _)); first | k_extra "zP" | k_extra "zN" | k_extra "zQ")
  rename (Fr _ _ _ _) => F9; rename (News _ _ _ _) => N9
  have N8 := news_spl1 (a := (p, _)) (fr := (T, _) :: (FD, _) :: (E, _) :: (tl ++ n1)) N9 (by k_extra "SPL1")
  refine (lbox_ok w p c _ oc _ _ hC (by k_mem) (by k_all) ho (by omega)).use B F9 X N8 T' (fun q hq => hq) rfl (by k_extra "ROOM") (by k_extra "UNITS") ?_
  intro r news' h2 tk2 F2 N2 z6_
  ((k_extra "V1"; obtain ⟨o2', tl2, Tb, nb, v, d, b, rfl, rfl, hp2, hm2, hvG, hdb, hap2⟩ := z6_) <;> k_extra "V2")
  have a1 := hap2.ne (d := p) (by k_mem)
  have a2 := hap2.ne (d := T) (by k_mem)
  have a3 := hap2.ne (d := FD) (by k_mem)
  have a4 := hap2.ne (d := E) (by k_mem)
  have a5 := hap2.ne (d := I) (by k_mem)
  clear N8 N9 F9
  by_cases hdn : d = .none
  · subst hdn
    ((k_extra "V1"; cases hvG) <;> k_extra "V2")
    repeat' (k_extra "zS"; (k_extra "TU"); first | k_extra "zP" | k_extra "zN" | k_extra "zQ")
    · rename (_ = true) => hc9
      have hkM : k = Str.ofString "MediaBox" := eq_of_beq hc9
      have hd0 : noneDue k idx = [fnd "field" idx "no MediaBox"] := if_pos hkM
      rename (Fr _ _ _ _) => F9; rename (News _ _ _ _) => N9; simp only [List.push_toArray] at N9
      exact unr_fin (pc := (p, o2')) (tc := (T, oT)) (fc := (FD, oF)) (tl2 := tl2) (tl := tl) (n1 := n1) F9 N9 (by k_extra "SPL1") (by k_all) fun hoff => hJ' _ _ sub_n1 ⟨o2', oT, oF, dv ++ [_], _, _, _, _, tab, es, rows ++ noneDue k idx, by k_extra "NX", by k_extra "NX", by k_extra "NX", by k_extra "NX", by k_extra "NX", rfl, pen_mono hp2 (by omega), hT, hF, (htab.mono sub_tn), (hes.mono sub_tn), (by rw [List.map_append, hd0]; exact (hdv.mono sub_tn).append (.cons (.tuple (mem_pre (by k_mem)) (.cons (.str _ _) (.cons (.int _ _) (.cons (.str _ _) .nil)))) .nil)), .gone hLd hk, ⟨by k_all, by k_all, by k_all, by k_all⟩⟩ hoff
    · rename (_ = false) => hc9
      have hkM : ¬ k = Str.ofString "MediaBox" := fun e => by rw [e] at hc9; exact absurd hc9 (by decide +kernel)
      have hd0 : noneDue k idx = [] := if_neg hkM
      rename (Fr _ _ _ _) => F9; rename (News _ _ _ _) => N9
      exact unr_fin (pc := (p, o2')) (tc := (T, oT)) (fc := (FD, oF)) (tl2 := tl2) (tl := tl) (n1 := n1) F9 N9 (by k_extra "SPL1") (by k_all) fun hoff => hJ' _ _ sub_n1 ⟨o2', oT, oF, dv, _, _, _, _, tab, es, rows ++ noneDue k idx, by k_extra "NX", by k_extra "NX", by k_extra "NX", by k_extra "NX", by k_extra "NX", rfl, pen_mono hp2 (by omega), hT, hF, (htab.mono sub_tn), (hes.mono sub_tn), (by rw [hd0, List.append_nil]; exact hdv.mono sub_tn), .gone hLd hk, ⟨by k_all, by k_all, by k_all, by k_all⟩⟩ hoff
  · have hn : noneD d = false := by cases d <;> first | rfl | exact absurd rfl hdn
    repeat' (k_extra "zS"; (k_extra "TU"); first | k_extra "zP" | k_extra "zN" | k_extra "NEWREF" | k_extra "SETF" | ((with_reducible show wpAny _ _ (call (Value.ref 334) _) _ _ _); (show wpAny _ _ (call (Value.ref 334) [_, _, _, _]) _ _ _); refine put_use (by k_asm) (by k_asm) (by k_asm) (by k_asm) (by k_asm) rfl (by k_extra "ROOM") (by k_extra "UNITS") (putc_val (by k_mem) (by k_mem) (by k_updF) (by assumption) (by first | omega | simp)) ?_; intro tP oP nP h' tk' F' N' l1' hd'; (try dsimp only at N'); (try simp only [AllLt, allLt_append, LCg.Off1, off1_append, LCg.Off3, off3_app_iff, and_true, and_assoc] at l1'); (repeat (have k_l := And.left l1'; replace l1' := And.right l1')); (try k_sweep)) | ((with_reducible first | show wpAny _ _ (compareOp CmpOp.IsNot _ Value.none) _ _ _ | show wpAny _ _ (compareOp CmpOp.Is _ Value.none) _ _ _); (first | refine PySem.isNot_none ?_ | refine PySem.is_none ?_); rw [vin_none hvG, hn]) | k_extra "zQ")
    · rename (b = true) => hb
      have hd0 : boxDue b k idx = [] := if_pos hb
      rename (Fr _ _ _ _) => F9; rename (News _ _ _ _) => N9
      exact unr_fin (pc := (p, o')) (tc := (T, oP)) (fc := (FD, o9)) (tl2 := tl2) (tl := tl) (n1 := n1) F9 N9 (by k_extra "SPL1") (by k_all) fun hoff => hJ' _ _ sub_n1 ⟨o', oP, o9, dv, _, _, _, _, tab ++ [((k.length : Int), 0, d)], es ++ [(k, .ref (k.length : Int) 0)], rows ++ boxDue b k idx, by k_extra "NX", by k_extra "NX", by k_extra "NX", by k_extra "NX", by k_extra "NX", rfl, pen_mono hp' (by omega), hd', hd9, (tab_put (htab.mono sub_tn) hfr (mem_pre (by k_mem)) (hvG.mono sub_t2)), (ves_put2 (hes.mono sub_tn) hfe (.ref (mem_pre (by k_mem)) (mem_pre (by k_mem)))), (by rw [hd0, List.append_nil]; exact hdv.mono sub_tn), .byref hLd hk hdb hdn, ⟨by k_all, by k_all, by k_all, by k_all⟩⟩ hoff
    · rename (b = false) => hb
      have hd0 : boxDue b k idx = [fnd "field" idx (k ++ Str.ofString " is no list of four numbers")] := if_neg (by rw [hb]; decide)
      rename (Fr _ _ _ _) => F9; rename (News _ _ _ _) => N9; simp only [List.push_toArray] at N9
      exact unr_fin (pc := (p, o')) (tc := (T, oP)) (fc := (FD, o9)) (tl2 := tl2) (tl := tl) (n1 := n1) F9 N9 (by k_extra "SPL1") (by k_all) fun hoff => hJ' _ _ sub_n1 ⟨o', oP, o9, dv ++ [_], _, _, _, _, tab ++ [((k.length : Int), 0, d)], es ++ [(k, .ref (k.length : Int) 0)], rows ++ boxDue b k idx, by k_extra "NX", by k_extra "NX", by k_extra "NX", by k_extra "NX", by k_extra "NX", rfl, pen_mono hp' (by omega), hd', hd9, (tab_put (htab.mono sub_tn) hfr (mem_pre (by k_mem)) (hvG.mono sub_t2)), (ves_put2 (hes.mono sub_tn) hfe (.ref (mem_pre (by k_mem)) (mem_pre (by k_mem)))), (by rw [List.map_append, hd0]; exact (hdv.mono sub_tn).append (.cons (.tuple (mem_pre (by k_mem)) (.cons (.str _ _) (.cons (.int _ _) (.cons (.str _ _) .nil)))) .nil)), .byref hLd hk hdb hdn, ⟨by k_all, by k_all, by k_all, by k_all⟩⟩ hoff
    · rename (b = true) => hb
      have hd0 : boxDue b k idx = [] := if_pos hb
      rename (Fr _ _ _ _) => F9; rename (News _ _ _ _) => N9
      exact unr_fin (pc := (p, o')) (tc := (T, oT)) (fc := (FD, o9)) (tl2 := tl2) (tl := tl) (n1 := n1) F9 N9 (by k_extra "SPL1") (by k_all) fun hoff => hJ' _ _ sub_n1 ⟨o', oT, o9, dv, _, _, _, _, tab, es ++ [(k, d)], rows ++ boxDue b k idx, by k_extra "NX", by k_extra "NX", by k_extra "NX", by k_extra "NX", by k_extra "NX", rfl, pen_mono hp' (by omega), hT, hd9, (htab.mono sub_tn), (ves_put (hes.mono sub_tn) hfe (hvG.mono sub_t2)), (by rw [hd0, List.append_nil]; exact hdv.mono sub_tn), .here hLd hk hdb hdn, ⟨by k_all, by k_all, by k_all, by k_all⟩⟩ hoff
    · rename (b = false) => hb
      have hd0 : boxDue b k idx = [fnd "field" idx (k ++ Str.ofString " is no list of four numbers")] := if_neg (by rw [hb]; decide)
      rename (Fr _ _ _ _) => F9; rename (News _ _ _ _) => N9; simp only [List.push_toArray] at N9
      exact unr_fin (pc := (p, o')) (tc := (T, oT)) (fc := (FD, o9)) (tl2 := tl2) (tl := tl) (n1 := n1) F9 N9 (by k_extra "SPL1") (by k_all) fun hoff => hJ' _ _ sub_n1 ⟨o', oT, o9, dv ++ [_], _, _, _, _, tab, es ++ [(k, d)], rows ++ boxDue b k idx, by k_extra "NX", by k_extra "NX", by k_extra "NX", by k_extra "NX", by k_extra "NX", rfl, pen_mono hp' (by omega), hT, hd9, (htab.mono sub_tn), (ves_put (hes.mono sub_tn) hfe (hvG.mono sub_t2)), (by rw [List.map_append, hd0]; exact (hdv.mono sub_tn).append (.cons (.tuple (mem_pre (by k_mem)) (.cons (.str _ _) (.cons (.int _ _) (.cons (.str _ _) .nil)))) .nil)), .here hLd hk hdb hdn, ⟨by k_all, by k_all, by k_all, by k_all⟩⟩ hoff
  )
  k_extra "GG"
theorem fr4 {n0 fr : List (Addr × Obj)} {o oT oF : Obj} {kvs : List (Int × Value)} {h : Heap} {m : Str → Option Value} {tk : Nat} {PQ : Value → List (Addr × Obj) → Prop} (hPl : ∀ idx tab es rows, FLaid idx 2 tab es rows → ∀ d b, (d, b) ∈ turnCases → ∀ way : Int, 0 ≤ way → way < 4 → FldOk tab ((es ++ turnE d) ++ resE way) idx ((rows ++ turnDue b idx) ++ resDue way idx)) (hC : PenC p c oc) (hc : (c, oc) ∈ n0) (ho : PenInv c NN o) (hNN : NN ≤ 80000) (hS : ShelfAt w n0 S T TR) (hT : oT.IsDictOf (PySem.intKind PG w) kvs) (loT : (T == sysModules) = false) (hTR : VIn w n0 (.ref TR) (.dict [])) (hF : oF.IsDictOf (PySem.strKind PG w) []) (loF : (FD == sysModules) = false) (htab : TabIn w n0 kvs [(1, 0, .dec 7 2), (2, 0, .dict [])])
    (m0 : m "pen" = some (.ref p)) (m1 : m "shelf" = some (.ref S)) (m2 : m "fields" = some (.ref FD)) (m3 : m "due" = some (.ref E)) (m4 : m "index" = some (.int idx ti))
    (o1 : ∀ q ∈ n0, q.1 ≠ p) (o2 : ∀ q ∈ n0, q.1 ≠ T) (o3 : ∀ q ∈ n0, q.1 ≠ FD) (o4 : ∀ q ∈ n0, q.1 ≠ E) (pT : p ≠ T) (pF : p ≠ FD) (pE : p ≠ E) (tF : T ≠ FD) (tE : T ≠ E) (fE : FD ≠ E) (hs0 : ∀ q ∈ fr, q ∈ n0) (hPQ : ∀ o', PenInv c (NN + 42) o' → PQ (.bool true) ((p, o') :: fr))
    (B : Below A₀ base outer g) (F : Fr g L h m) (X : (K w.params).In g) (N : News g L h ((p, o) :: (T, oT) :: (FD, oF) :: (E, listOf (List.toArray []) 0) :: n0)) (T' : TopV mean mg mb g) (hd : dp + 290 < recursionLimit) (hu : un + 1500 < cLine) : FRW w dp un gd outer g s L PQ 4 h tk := by
  (k_with "GO" =>
  unfold FRW
  dsimp only [F496, List.drop]
  repeat' (k_extra "zS"; (fail_if_success (with_reducible show wpAny _ _ (pyIter (Value.ref _)) _ _ _)); first | k_extra "zP" | k_extra "FORV" | k_extra "zQ")
  rename (Fr _ _ _ _) => F9; rename (News _ _ _ _) => N9
  have N8 := news_spl4 (a := (p, _)) (b := (T, _)) (c := (FD, _)) (d := (E, _)) (fr := n0) N9 (by repeat (first | exact splC4 | apply SplC.cons | apply SplC.app))
  refine iter_listUnr (n := 0) (vs := [Value.str (Str.ofString "MediaBox") _, Value.str (Str.ofString "CropBox") _]) (lo := listOf (List.toArray [Value.str (Str.ofString "MediaBox") _, Value.str (Str.ofString "CropBox") _]) 0) (by rfl) F9 N8 (by k_mem) rfl rfl (fun I hI => ?_)
  refine (fun (key : ∀ (n1 : List (Addr × Obj)) (lp : Addr × Obj), lp ∈ n1 → (∀ q ∈ n0, q ∈ n1) → ((∀ q ∈ n1, q.1 ≠ p) ∧ (∀ q ∈ n1, q.1 ≠ T) ∧ (∀ q ∈ n1, q.1 ≠ FD) ∧ ∀ q ∈ n1, q.1 ≠ E) → (∀ q ∈ (p, o) :: (T, oT) :: (FD, oF) :: (E, listOf (List.toArray []) 0) :: n1, q.1 < I) → ListRest _ _ _ _ _ _ _ _ _ _ I lp _ _ ((p, o) :: (T, oT) :: (FD, oF) :: (E, listOf (List.toArray []) 0) :: n1)) => key _ _ ?a1 ?a2 ?a3 hI) ?_
  case a1 => k_mem
  case a2 => exact fun q hq => List.mem_append_right _ hq
  case a3 => exact ⟨by k_all, by k_all, by k_all, by k_all⟩
  clear N9 N8 F9 hI
  intro n1 lp hlp hsub ⟨p1, p2, p3, p4⟩ hI
  refine list_loop2 (fun i m' n' => FSt2 w p c S T FD E idx ti n1 NN i m' n' ∧ ∀ q ∈ n', q.1 ≠ I) ⟨⟨o, oT, oF, [], 0, [], kvs, [], _, [], [], by k_extra "NX", by k_extra "NX", by k_extra "NX", by k_extra "NX", by k_extra "NX", rfl, by simpa using ho, hT, hF, htab.mono hsub, .nil, .nil, .zero, ⟨by simp, by simp, by simp, by simp⟩⟩, fun q hq => Nat.ne_of_lt (hI q hq)⟩ ?step ?fin
  case step =>
    intro i v m₁ nn hv z5_ it h1 tk1 hcl F1 N1 J' hJ'
    ((k_extra "V1"; obtain ⟨hL, oI⟩ := z5_) <;> k_extra "V2")
    obtain ⟨k, t, hk, rfl⟩ : ∃ k t, keysB[i]? = some k ∧ v = .str k t := by
      ((k_extra "V1"; rcases i with _ | _ | i) <;> k_extra "V2")
      · exact ⟨_, _, rfl, (Option.some.inj hv).symm⟩
      · exact ⟨_, _, rfl, (Option.some.inj hv).symm⟩
      · simp at hv
    exact fr4turn hC (hsub _ hc) hNN (shelfAt_mono hS hsub) p1 p2 p3 p4 pT pF pE tF tE fE hk hL oI rfl B F1 X N1 T' hd hu (fun m' n' a b d => hJ' _ _ (a _ hlp) ⟨b, d⟩)
  case fin =>
    intro m₁ n₁ h1 tk1 z4_ F1 N1
    ((k_extra "V1"; obtain ⟨⟨o', oT', oF', dv, nd, tl, kvs', kvF', tab, es, rows, g1, g2, g3, g4, g5, rfl, ho', hT', hF', htab', hes', hdv, hLd, ⟨t1, t2, t3, t4⟩⟩, oI⟩ := z4_) <;> k_extra "V2")
    replace hLd : FLaid idx 2 tab es rows := hLd
    replace ho' : PenInv c (NN + 20 * ((2 : Nat) : Int)) o' := ho'
    ((k_extra "V1"; obtain ⟨lt, le, ll, hfree, hkeys⟩ := hLd.facts) <;> k_extra "V2")
    have hkl := tab_length htab'
    have hdl := hdv.length
    rw [List.length_map] at hdl
    have hS' := shelfAt_mono hS hsub
    have hTR' := hTR.mono hsub
    have N8 : News g L h1 ((p, o') :: (FD, oF') :: (E, listOf dv.toArray nd) :: ((T, oT') :: (tl ++ n1))) := news_sub N1 (by k_extra "zU")
    have hsh : Shelved w ((T, oT') :: (tl ++ n1)) S tab [] := ⟨T, TR, oT', kvs', shelfAt_mono hS' (fun q hq => List.mem_cons_of_mem _ (List.mem_append_right _ hq)), List.mem_cons_self, loT, hT', htab'.mono (fun q hq => List.mem_cons_of_mem _ hq), hTR'.mono (fun q hq => List.mem_cons_of_mem _ (List.mem_append_right _ hq)), by omega⟩
    show wpAny _ _ _ _ _ _
    exact fr5 (NN := NN + 40) hsh hC (List.mem_cons_of_mem _ (List.mem_append_right _ (hsub _ hc))) (pen_mono ho' (by omega)) (by omega) g1 g2 g5 g3 g4 hF' loF (hes'.mono (fun q hq => List.mem_cons_of_mem _ hq)) (by omega) (fun e he => by obtain ⟨j, hj, hj2⟩ := hkeys e he; rcases keysB_at hj2 with ⟨_, e2, _⟩ | ⟨_, e2, _⟩ <;> rw [e2] <;> exact ⟨by decide +kernel, by decide +kernel⟩) (hdv.mono (fun q hq => List.mem_cons_of_mem _ hq)) (by omega) (by k_all) (by k_all) (by k_all) pF pE fE (fun d b hdb way h0 h4 => hPl idx tab es rows hLd d b hdb way h0 h4) (fun q hq => List.mem_cons_of_mem _ (List.mem_append_right _ (hsub _ (hs0 q hq)))) (fun o' h => hPQ o' (by rwa [Int.add_assoc] at h)) B F1 X N8 T' hd hu
  )
  k_extra "GG"
theorem fields_right_ok (w : World) (hPl : ∀ idx tab es rows, FLaid idx 2 tab es rows → ∀ d b, (d, b) ∈ turnCases → ∀ way : Int, 0 ≤ way → way < 4 → FldOk tab ((es ++ turnE d) ++ resE way) idx ((rows ++ turnDue b idx) ++ resDue way idx)) (p c : Addr) (o oc : Obj) (fr : List (Addr × Obj)) (N : Int) (hC : PenC p c oc) (hc : (c, oc) ∈ fr) (hfr : ∀ q ∈ fr, q.1 ≠ p) (ho : PenInv c N o) (hN : N ≤ 70000) :
    CallC w 496 291 1503 [.ref p] ((p, o) :: fr) (fun r news' => ∃ o', r = .bool true ∧ news' = (p, o') :: fr ∧ PenInv c (N + 43) o') := by
  (k_with "GO" =>
  refine CallC.gen fun PQ hPQ => ?_
  refine enterC (dc := 290) (uc := 1500) (binds := [("pen", .ref p)]) (look_496 _) (code_496 _) (fun s _ => BindsTo.of_eq rfl) (locs rfl) rfl rfl rfl (by decide) ?_
  intro dp un gd outer A₀ base g mean mg mb L s B F X N' T' hd hu
  dsimp only [F496]
  repeat' (k_extra "zS"; (fail_if_success (with_reducible show wpAny _ _ (execs [_, _, _, _, _, _, _, _] _) _ _ _)); first | k_extra "zP" | k_extra "NEWD" | ((with_reducible show wpAny _ _ (call (Value.ref 334) _) _ _ _); (show wpAny _ _ (call (Value.ref 334) [_, _, _, _]) _ _ _); refine put_use (by k_asm) (by k_asm) (by k_asm) (by k_asm) (by k_asm) rfl (by k_extra "ROOM") (by k_extra "UNITS") (putc_val (by k_mem) (by k_mem) (by k_updF) (by assumption) (by first | omega | simp | exact Nat.le_trans (stored_length_le _ _ _) (by simp))) ?_; intro tP oP nP h' tk' F' N' l1' hd'; (try dsimp only at N'); (try simp only [AllLt, allLt_append, LCg.Off1, off1_append, LCg.Off3, off3_app_iff, and_true, and_assoc] at l1'); (repeat (have k_l := And.left l1'; replace l1' := And.right l1')); (try k_sweep)) | k_extra "zQ")
  rename (PenInv _ _ _) => hp2
  rename (Fr _ _ _ _) => F9; rename (News _ _ _ _) => N9
  have N8 := field_perm N9
  exact fr4 hPl hC (by k_mem) hp2 (by omega) ⟨_, _, _, _, by k_mem, by k_mem⟩ (by assumption) (by assumption) (VIn.dict (by k_mem) (by assumption) (by assumption) .nil) (by assumption) (by assumption) (tab_put (tab_put .nil rfl (by k_mem) (.dec (by k_mem) (by k_mem))) rfl (by k_mem) (.dict (by k_mem) (by assumption) (by assumption) .nil)) (by k_extra "NX") (by k_extra "NX") (by k_extra "NX") (by k_extra "NX") (by k_extra "NX") (by k_all) (by k_all) (by k_all) (by k_all) (by k_ne) (by k_ne) (by k_ne) (by k_ne) (by k_ne) (by k_ne) (by k_extra "zU") (fun o' h => hPQ _ _ ⟨o', rfl, rfl, by rwa [Int.add_assoc] at h⟩) B F9 X N8 T' hd hu
  )
  k_extra "GG"
end fr
theorem getD_left {k : Str} : ∀ {a b : List (Str × PV)}, (∀ e ∈ b, e.1 ≠ k) → getD (a ++ b) k = getD a k
  | [], [], _ => rfl
  | [], (k', d) :: b, h => by
    have e : getD ((k', d) :: b) k = getD b k := by rw [getD, if_neg (h _ List.mem_cons_self)]
    exact e.trans (getD_left (a := []) fun e he => h e (List.mem_cons_of_mem _ he))
  | (k', d) :: a, b, h => by
    rw [List.cons_append]
    by_cases e : k' = k
    · rw [getD, getD, if_pos e, if_pos e]
    · rw [getD, getD, if_neg e, if_neg e]; exact getD_left h
theorem getD_right {k : Str} : ∀ {a b : List (Str × PV)}, (∀ e ∈ a, e.1 ≠ k) → getD (a ++ b) k = getD b k
  | [], _, _ => rfl
  | (k', d) :: a, b, h => by
    rw [List.cons_append, getD, if_neg (h _ List.mem_cons_self)]
    exact getD_right fun e he => h e (List.mem_cons_of_mem _ he)
theorem str_ne_mr : Str.ofString "MediaBox" ≠ Str.ofString "Rotate" ∧ Str.ofString "CropBox" ≠ Str.ofString "Rotate" ∧ Str.ofString "MediaBox" ≠ Str.ofString "Resources" ∧ Str.ofString "CropBox" ≠ Str.ofString "Resources" ∧ Str.ofString "MediaBox" ≠ Str.ofString "CropBox" ∧ Str.ofString "Rotate" ≠ Str.ofString "Resources" := by decide +kernel
def boxIn (t : List (Int × Int × PV)) (es : List (Str × PV)) (k : Str) (d : PV) : Prop := getD es k = d ∧ isRef d = false ∨ ∃ n, getD es k = .ref n 0 ∧ tabAt t n = some (0, d) ∧ isRef d = false
theorem boxIn.fetch {t : List (Int × Int × PV)} {es : List (Str × PV)} {k : Str} {d : PV} (h : boxIn t es k d) : fetchD t (getD es k) = d ∧ FetchOk t (getD es k) := by
  ((k_extra "V1"; rcases h with ⟨h, hr⟩ | ⟨n, h, ht, hr⟩) <;> k_extra "V2")
  · rw [h]
    cases d <;> first | exact ⟨rfl, trivial⟩ | exact nomatch hr
  · rw [h]
    refine ⟨by simp only [fetchD, ht]; exact if_pos trivial, Int.le_refl 0, fun g' x e => ?_⟩
    rw [ht] at e
    ((k_extra "V1"; cases e) <;> k_extra "V2")
    exact hr
theorem boxCases_ref {d : PV} {b : Bool} (h : (d, b) ∈ boxCases) : isRef d = false := by
  have := List.all_eq_true.mp (show (boxCases.all fun p => !isRef p.1) = true from rfl) _ h
  simpa using this
theorem turn_noarr {d : PV} {b : Bool} {l : List PV} (h : (d, b) ∈ turnCases) : d ≠ .arr l := by
  have := List.all_eq_true.mp (show (turnCases.all fun p => match p.1 with | .arr _ => false | _ => true) = true from rfl) _ h
  intro e
  rw [e] at this
  exact Bool.noConfusion this
theorem boxCases_num {t : List (Int × Int × PV)} (h1 : tabAt t 1 = some (0, .dec 7 2)) {d : PV} {b : Bool} (h : (d, b) ∈ boxCases) (hn : d ≠ .none) : boxD t d = b ∧ (∀ l, d = .arr l → l.length ≤ 1000 ∧ ∀ x ∈ l, FetchOk t x) ∧ ToldOk 6 d := by
  have hf : fetchD t (.ref 1 0) = .dec 7 2 := by simp only [fetchD, h1]; exact if_pos trivial
  have hr : FetchOk t (.ref 1 0) := ⟨Int.le_refl 0, fun g' x e => by rw [h1] at e; cases e; rfl⟩
  have n1 : numD t (.ref 1 0) = true := by unfold numD; rw [hf]; decide +kernel
  have n2 : ∀ i, numD t (.int i) = true := fun i => show ([Str.ofString "int", Str.ofString "real"].any fun x => x == kindD (.int 0)) = true by decide +kernel
  have n3 : ∀ x y, numD t (.dec x y) = true := fun x y => show ([Str.ofString "int", Str.ofString "real"].any fun x => x == kindD (.dec 0 0)) = true by decide +kernel
  have n4 : ∀ x, numD t (.bool x) = false := fun x => show ([Str.ofString "int", Str.ofString "real"].any fun x => x == kindD (.bool false)) = false by decide +kernel
  have n5 : ∀ x, numD t (.name x) = false := fun x => show ([Str.ofString "int", Str.ofString "real"].any fun x => x == kindD (.name "")) = false by decide +kernel
  simp only [boxCases, List.mem_cons, Prod.mk.injEq, List.not_mem_nil, or_false] at h
  ((k_extra "V1"; rcases h with ⟨rfl, rfl⟩ | ⟨rfl, rfl⟩ | ⟨rfl, rfl⟩ | ⟨rfl, rfl⟩ | ⟨rfl, rfl⟩ | ⟨rfl, rfl⟩) <;> k_extra "V2")
  · exact ⟨by simp [boxD, n1, n2, n3], fun l e => by cases e; exact ⟨by simp, by simp [FetchOk]; exact fun _ _ e => by rw [h1] at e; cases e; rfl⟩, by simp [ToldOk]⟩
  · exact absurd rfl hn
  · exact ⟨by simp [boxD], fun l e => by cases e; exact ⟨by simp, by simp [FetchOk]⟩, by simp [ToldOk]⟩
  · exact ⟨by simp [boxD], fun l e => by cases e; exact ⟨by simp, by simp [FetchOk]; exact fun _ _ e => by rw [h1] at e; cases e; rfl⟩, by simp [ToldOk]⟩
  · exact ⟨by simp [boxD, n2, n4], fun l e => by cases e; exact ⟨by simp, by simp [FetchOk]⟩, by simp [ToldOk]⟩
  · exact ⟨by simp [boxD, n2, n5], fun l e => by cases e; exact ⟨by simp, by simp [FetchOk]⟩, by simp [ToldOk]⟩
def boxOne (d : PV) (b : Bool) (k : Str) (idx : Int) : List (Str × Int × Str) := match d with
  | .none => []
  | _ => boxDue b k idx
theorem boxRow_eq {t : List (Int × Int × PV)} {es : List (Str × PV)} {idx : Int} {k : Str} {d : PV} {b : Bool} (h : fetchD t (getD es k) = d) (h1 : tabAt t 1 = some (0, .dec 7 2)) (hc : (d, b) ∈ boxCases) : boxRow t es idx k = boxOne d b k idx := by
  unfold boxRow boxOne boxDue
  rw [h]
  cases d with
  | none => rfl
  | _ => simp only [(boxCases_num h1 hc (by simp)).1]
def TabQ (t : List (Int × Int × PV)) : Prop := tabAt t 1 = some (0, .dec 7 2) ∧ tabAt t 2 = some (0, .dict []) ∧ tabAt t 9 = none ∧ TabOk t
theorem TabQ.start : TabQ [(1, 0, .dec 7 2), (2, 0, .dict [])] := by
  refine ⟨rfl, rfl, rfl, fun k g d h => ?_⟩
  rw [tabAt] at h
  split at h
  · ((k_extra "V1"; cases h) <;> k_extra "V2"); simp [ToldOk]
  · rw [tabAt] at h
    split at h
    · ((k_extra "V1"; cases h) <;> k_extra "V2"); simp [ToldOk, Rising]
    · ((k_extra "V1"; cases h) <;> k_extra "V2")
theorem tabAt_snoc {t : List (Int × Int × PV)} {k g : Int} {d : PV} {x : Int} : tabAt (t ++ [(k, g, d)]) x = match tabAt t x with
    | some r => some r
    | none => if k = x then some (g, d) else none := by
  induction t with
  | nil => rfl
  | cons q t ih =>
    ((k_extra "V1"; obtain ⟨k', g', d'⟩ := q) <;> k_extra "V2")
    by_cases e : k' = x
    · rw [List.cons_append, tabAt, tabAt, if_pos e, if_pos e]
    · rw [List.cons_append, tabAt, tabAt, if_neg e, if_neg e, ih]
theorem TabQ.snoc {t : List (Int × Int × PV)} {k : Int} {d : PV} (h : TabQ t) (hk : k ≠ 9) (hd : ToldOk 6 d) : TabQ (t ++ [(k, 0, d)]) := by
  ((k_extra "V1"; obtain ⟨h1, h2, h9, ho⟩ := h) <;> k_extra "V2")
  refine ⟨by rw [tabAt_snoc, h1], by rw [tabAt_snoc, h2], by rw [tabAt_snoc, h9]; exact if_neg hk, fun x g' d' e => ?_⟩
  rw [tabAt_snoc] at e
  split at e
  · rename (tabAt t x = some _) => he; cases e; exact ho _ _ _ he
  · split at e
    · ((k_extra "V1"; cases e) <;> k_extra "V2"); exact hd
    · ((k_extra "V1"; cases e) <;> k_extra "V2")
theorem box_told {d : PV} {b : Bool} (hc : (d, b) ∈ boxCases) : ToldOk 6 d := by
  by_cases hn : d = .none
  · subst hn; trivial
  · exact (boxCases_num (t := [(1, 0, .dec 7 2)]) rfl hc hn).2.2
structure Boxes (t : List (Int × Int × PV)) (es : List (Str × PV)) (idx : Int) (rows : List (Str × Int × Str)) (d1 d2 : PV) (b1 b2 : Bool) : Prop where
  tab : TabQ t
  in1 : boxIn t es (Str.ofString "MediaBox") d1
  in2 : boxIn t es (Str.ofString "CropBox") d2
  c1 : (d1, b1) ∈ boxCases
  c2 : (d2, b2) ∈ boxCases
  rest : ∀ k, k ≠ Str.ofString "MediaBox" → k ≠ Str.ofString "CropBox" → ∀ e ∈ es, e.1 ≠ k
  rows : rows = (if noneD d1 = true then [fnd "field" idx "no MediaBox"] else boxOne d1 b1 (Str.ofString "MediaBox") idx) ++ boxOne d2 b2 (Str.ofString "CropBox") idx
theorem box_none {d : PV} (hn : d ≠ .none) : noneD d = false := by cases d <;> first | exact absurd rfl hn | rfl
theorem box_one {d : PV} (hn : d ≠ .none) (b : Bool) (k : Str) (idx : Int) : boxOne d b k idx = boxDue b k idx := by cases d <;> first | exact absurd rfl hn | rfl
theorem box_ite {d : PV} (hn : d ≠ .none) (b : Bool) (k : Str) (idx : Int) (X : List (Str × Int × Str)) : boxDue b k idx = (if noneD d = true then X else boxOne d b k idx) := by
  rw [box_none hn, box_one hn]; rfl
theorem flaid_succ {idx : Int} {i : Nat} {t : List (Int × Int × PV)} {es : List (Str × PV)} {rows : List (Str × Int × Str)} {k : Str} {n : Int} (H : FLaid idx (i + 1) t es rows) (hk0 : keysB[i]? = some k) (hn : ((k.length : Nat) : Int) = n) : ∃ t1 es1 rows1, FLaid idx i t1 es1 rows1 ∧ ((t = t1 ∧ es = es1 ∧ rows = rows1 ++ noneDue k idx) ∨ ∃ d b, (d, b) ∈ boxCases ∧ d ≠ .none ∧ rows = rows1 ++ boxDue b k idx ∧ ((t = t1 ∧ es = es1 ++ [(k, d)]) ∨ (t = t1 ++ [(n, 0, d)] ∧ es = es1 ++ [(k, .ref n 0)]))) := by
  subst hn
  cases H with
  | gone h hk =>
    have e := Option.some.inj (hk.symm.trans hk0)
    exact ⟨_, _, _, h, .inl ⟨rfl, rfl, by rw [e]⟩⟩
  | here h hk hc hn =>
    have e := Option.some.inj (hk.symm.trans hk0)
    exact ⟨_, _, _, h, .inr ⟨_, _, hc, hn, by rw [e], .inl ⟨rfl, by rw [e]⟩⟩⟩
  | byref h hk hc hn =>
    have e := Option.some.inj (hk.symm.trans hk0)
    exact ⟨_, _, _, h, .inr ⟨_, _, hc, hn, by rw [e], .inr ⟨by rw [e], by rw [e]⟩⟩⟩
theorem flaid_zero {idx : Int} {t : List (Int × Int × PV)} {es : List (Str × PV)} {rows : List (Str × Int × Str)} (H : FLaid idx 0 t es rows) : t = [(1, 0, .dec 7 2), (2, 0, .dict [])] ∧ es = [] ∧ rows = [] := by
  cases H
  exact ⟨rfl, rfl, rfl⟩
theorem flaid_boxes {idx : Int} {t : List (Int × Int × PV)} {es : List (Str × PV)} {rows : List (Str × Int × Str)} (H : FLaid idx 2 t es rows) : ∃ d1 d2 b1 b2, Boxes t es idx rows d1 d2 b1 b2 := by
  have hno : (PV.none, false) ∈ boxCases := by repeat (first | exact List.Mem.head _ | apply List.Mem.tail)
  have hMC : Str.ofString "MediaBox" ≠ Str.ofString "CropBox" := str_ne_mr.2.2.2.2.1
  -- the first box
  ((k_extra "V1"; obtain ⟨t1, es1, rows1, H1, H⟩ := flaid_succ (k := Str.ofString "CropBox") (n := 7) H rfl (by decide +kernel)) <;> k_extra "V2")
  obtain ⟨d1, b1, c1, hq1, hi1, hr1, he1, h7⟩ : ∃ d1 b1, (d1, b1) ∈ boxCases ∧ TabQ t1 ∧ boxIn t1 es1 (Str.ofString "MediaBox") d1 ∧ rows1 = (if noneD d1 = true then [fnd "field" idx "no MediaBox"] else boxOne d1 b1 (Str.ofString "MediaBox") idx) ∧ (∀ e ∈ es1, e.1 = Str.ofString "MediaBox") ∧ tabAt t1 7 = none := by
    ((k_extra "V1"; obtain ⟨t0, es0, rows0, H0, hd⟩ := flaid_succ (k := Str.ofString "MediaBox") (n := 8) H1 rfl (by decide +kernel)) <;> k_extra "V2")
    ((k_extra "V1"; obtain ⟨rfl, rfl, rfl⟩ := flaid_zero H0) <;> k_extra "V2")
    ((k_extra "V1"; rcases hd with ⟨rfl, rfl, rfl⟩ | ⟨d, b, hc, hn, rfl, ⟨rfl, rfl⟩ | ⟨rfl, rfl⟩⟩) <;> k_extra "V2")
    · exact ⟨.none, false, hno, .start, .inl ⟨rfl, rfl⟩, (if_pos rfl : noneDue (Str.ofString "MediaBox") idx = _), (fun _ h => (List.not_mem_nil h).elim), rfl⟩
    · exact ⟨d, b, hc, .start, .inl ⟨if_pos rfl, boxCases_ref hc⟩, box_ite hn b _ idx _, (fun e he => by rw [List.mem_singleton.mp he]), rfl⟩
    · exact ⟨d, b, hc, TabQ.start.snoc (by decide) (box_told hc), .inr ⟨8, if_pos rfl, rfl, boxCases_ref hc⟩, box_ite hn b _ idx _, (fun e he => by rw [List.mem_singleton.mp he]), rfl⟩
  have keep : ∀ {t2 es2}, (∀ x r, tabAt t1 x = some r → tabAt t2 x = some r) → getD es2 (Str.ofString "MediaBox") = getD es1 (Str.ofString "MediaBox") → boxIn t2 es2 (Str.ofString "MediaBox") d1 := by
    intro t2 es2 ht he
    ((k_extra "V1"; rcases hi1 with ⟨a, b⟩ | ⟨n, a, b, c⟩) <;> k_extra "V2")
    · exact .inl ⟨by rw [he, a], b⟩
    · exact .inr ⟨n, by rw [he, a], ht _ _ b, c⟩
  have hno2 : getD es1 (Str.ofString "CropBox") = .none := by
    have := getD_right (k := Str.ofString "CropBox") (a := es1) (b := []) fun e he => by rw [he1 e he]; exact hMC
    rwa [List.append_nil] at this
  ((k_extra "V1"; rcases H with ⟨rfl, rfl, rfl⟩ | ⟨d, b, hc, hn, rfl, ⟨rfl, rfl⟩ | ⟨rfl, rfl⟩⟩) <;> k_extra "V2")
  · refine ⟨d1, .none, b1, false, hq1, hi1, .inl ⟨hno2, rfl⟩, c1, hno, fun k hk _ e he => by rw [he1 e he]; exact hk.symm, ?_⟩
    rw [hr1, show noneDue (Str.ofString "CropBox") idx = [] from if_neg hMC.symm]; rfl
  · refine ⟨d1, d, b1, b, hq1, keep (fun _ _ h => h) (getD_left fun e he => by rw [List.mem_singleton.mp he]; exact hMC.symm), .inl ⟨?_, boxCases_ref hc⟩, c1, hc, fun k hk hk2 e he => ?_, ?_⟩
    · rw [getD_right fun e he => by rw [he1 e he]; exact hMC]; exact if_pos rfl
    · ((k_extra "V1"; rcases List.mem_append.mp he with he | he) <;> k_extra "V2")
      · rw [he1 e he]; exact hk.symm
      · rw [List.mem_singleton.mp he]; exact hk2.symm
    · rw [hr1, box_one hn]
  · refine ⟨d1, d, b1, b, hq1.snoc (by decide) (box_told hc), keep (fun x r h => by rw [tabAt_snoc, h]) (getD_left fun e he => by rw [List.mem_singleton.mp he]; exact hMC.symm), .inr ⟨7, ?_, ?_, boxCases_ref hc⟩, c1, hc, fun k hk hk2 e he => ?_, ?_⟩
    · rw [getD_right fun e he => by rw [he1 e he]; exact hMC]; exact if_pos rfl
    · rw [tabAt_snoc, h7]; exact if_pos rfl
    · ((k_extra "V1"; rcases List.mem_append.mp he with he | he) <;> k_extra "V2")
      · rw [he1 e he]; exact hk.symm
      · rw [List.mem_singleton.mp he]; exact hk2.symm
    · rw [hr1, box_one hn]
theorem noneRow {d : PV} (h : noneD d = true) (b : Bool) (k : Str) (idx : Int) : boxOne d b k idx = [] := by cases d <;> first | rfl | exact nomatch h
theorem fields_plain : ∀ idx tab es rows, FLaid idx 2 tab es rows → ∀ d b, (d, b) ∈ turnCases → ∀ way : Int, 0 ≤ way → way < 4 → FldOk tab ((es ++ turnE d) ++ resE way) idx ((rows ++ turnDue b idx) ++ resDue way idx) := by
  intro idx t es rows H d b hdb way h0 h4
  ((k_extra "V1"; obtain ⟨d1, d2, b1, b2, ⟨⟨q1, q2, q9, qo⟩, i1, i2, c1, c2, hrest, hrows⟩⟩ := flaid_boxes H) <;> k_extra "V2")
  ((k_extra "V1"; obtain ⟨m1, m2, m3, m4, m5, m6⟩ := str_ne_mr) <;> k_extra "V2")
  have kT : ∀ e ∈ turnE d, e.1 = Str.ofString "Rotate" := by
    intro e he; cases d <;> first | (cases he; done) | (rw [List.mem_singleton.mp he])
  have kR : ∀ e ∈ resE way, e.1 = Str.ofString "Resources" := by
    intro e he; unfold resE at he; split at he <;> first | (cases he; done) | (rw [List.mem_singleton.mp he])
  have gB : ∀ k, k ≠ Str.ofString "Rotate" → k ≠ Str.ofString "Resources" → getD ((es ++ turnE d) ++ resE way) k = getD es k := fun k a b => by
    rw [getD_left fun e he => by rw [kR e he]; exact b.symm, getD_left fun e he => by rw [kT e he]; exact a.symm]
  have gM := gB _ m1 m3
  have gC := gB _ m2 m4
  have gT : getD ((es ++ turnE d) ++ resE way) (Str.ofString "Rotate") = d := by
    rw [getD_left fun e he => by rw [kR e he]; exact m6.symm, getD_right (hrest _ m1.symm m2.symm)]
    cases d <;> first | rfl | exact if_pos rfl
  have gR : getD ((es ++ turnE d) ++ resE way) (Str.ofString "Resources") = getD (resE way) (Str.ofString "Resources") := by
    refine getD_right fun e he => ?_
    ((k_extra "V1"; rcases List.mem_append.mp he with he | he) <;> k_extra "V2")
    · exact hrest _ m3.symm m4.symm e he
    · rw [kT e he]; exact m6
  ((k_extra "V1"; obtain ⟨f1, o1⟩ := i1.fetch) <;> k_extra "V2")
  ((k_extra "V1"; obtain ⟨f2, o2⟩ := i2.fetch) <;> k_extra "V2")
  have hd : fetchD t d = d ∧ FetchOk t d ∧ turnD t ((es ++ turnE d) ++ resE way) idx = turnDue b idx := by
    have h := hdb
    simp only [turnCases, List.mem_cons, Prod.mk.injEq, List.not_mem_nil, or_false] at h
    unfold turnD
    rw [gT]
    ((k_extra "V1"; rcases h with ⟨rfl, rfl⟩ | ⟨rfl, rfl⟩ | ⟨rfl, rfl⟩ | ⟨rfl, rfl⟩ | ⟨rfl, rfl⟩ | ⟨rfl, rfl⟩ | ⟨rfl, rfl⟩ | ⟨rfl, rfl⟩ | ⟨rfl, rfl⟩) <;> k_extra "V2") <;> exact ⟨rfl, trivial, rfl⟩
  have hway := int4 h0 h4
  have hr : FetchOk t (getD (resE way) (Str.ofString "Resources")) ∧ resD t ((es ++ turnE d) ++ resE way) idx = resDue way idx := by
    unfold resD resDue
    rw [show (("Resources" : Str)) = Str.ofString "Resources" from rfl, gR]
    ((k_extra "V1"; rcases hway with rfl | rfl | rfl | rfl) <;> k_extra "V2")
    · exact ⟨trivial, rfl⟩
    · rw [show getD (resE 1) (Str.ofString "Resources") = .dict [] from if_pos rfl]; exact ⟨trivial, rfl⟩
    · rw [show getD (resE 2) (Str.ofString "Resources") = .ref 2 0 from if_pos rfl]
      refine ⟨⟨Int.le_refl 0, fun g' x e => by rw [q2] at e; cases e; rfl⟩, ?_⟩
      rw [show fetchD t (.ref 2 0) = .dict [] by simp only [fetchD, q2]; exact if_pos trivial]; rfl
    · rw [show getD (resE 3) (Str.ofString "Resources") = .ref 9 0 from if_pos rfl]
      refine ⟨⟨Int.le_refl 0, fun g' x e => by rw [q9] at e; cases e⟩, ?_⟩
      rw [show fetchD t (.ref 9 0) = .none by simp only [fetchD, q9]]; rfl
  have hall : ∀ k, FetchOk t (getD ((es ++ turnE d) ++ resE way) k) := by
    intro k
    by_cases e1 : k = Str.ofString "Rotate"
    · rw [e1, gT]; exact hd.2.1
    by_cases e2 : k = Str.ofString "Resources"
    · rw [e2, gR]; exact hr.1
    rw [gB k e1 e2]
    by_cases e3 : k = Str.ofString "MediaBox"
    · rw [e3]; exact o1
    by_cases e4 : k = Str.ofString "CropBox"
    · rw [e4]; exact o2
    have := getD_right (k := k) (a := es) (b := []) (hrest k e3 e4)
    rw [List.append_nil] at this
    rw [this]; trivial
  have hb : ∀ {d' : PV} {b' : Bool}, (d', b') ∈ boxCases → ∀ l, d' = .arr l → l.length ≤ 1000 ∧ ∀ x ∈ l, FetchOk t x := fun hc l e => (boxCases_num q1 hc (by rw [e]; simp)).2.1 l e
  have heq : fieldsD t ((es ++ turnE d) ++ resE way) idx = (rows ++ turnDue b idx) ++ resDue way idx := by
    have r1 : boxRow t ((es ++ turnE d) ++ resE way) idx (Str.ofString "MediaBox") = boxOne d1 b1 (Str.ofString "MediaBox") idx := boxRow_eq (by rw [gM]; exact f1) q1 c1
    have r2 : boxRow t ((es ++ turnE d) ++ resE way) idx (Str.ofString "CropBox") = boxOne d2 b2 (Str.ofString "CropBox") idx := boxRow_eq (by rw [gC]; exact f2) q1 c2
    have r0 : mediaD t ((es ++ turnE d) ++ resE way) idx = if noneD d1 = true then [fnd "field" idx "no MediaBox"] else [] := by unfold mediaD; rw [show (("MediaBox" : Str)) = Str.ofString "MediaBox" from rfl, gM, f1]
    unfold fieldsD keysB
    rw [List.flatMap_cons, List.flatMap_cons, List.flatMap_nil, List.append_nil, r0, r1, r2, hd.2.2, hr.2, hrows]
    by_cases hn : noneD d1 = true
    · rw [if_pos hn, if_pos hn, noneRow hn]; simp only [List.nil_append, List.append_assoc]
    · rw [if_neg hn, if_neg hn]; simp only [List.nil_append, List.append_assoc]
  refine ⟨qo, hall, ?_, heq, ?_⟩
  · intro k l h
    by_cases e1 : k = Str.ofString "Rotate"
    · rw [e1, gT, hd.1] at h
      exact absurd h (turn_noarr hdb)
    by_cases e2 : k = Str.ofString "Resources"
    · rw [e2, gR] at h
      ((k_extra "V1"; rcases hway with rfl | rfl | rfl | rfl) <;> k_extra "V2")
      · ((k_extra "V1"; cases h) <;> k_extra "V2")
      · rw [show getD (resE 1) (Str.ofString "Resources") = .dict [] from if_pos rfl] at h; cases h
      · rw [show getD (resE 2) (Str.ofString "Resources") = .ref 2 0 from if_pos rfl, show fetchD t (.ref 2 0) = .dict [] by simp only [fetchD, q2]; exact if_pos trivial] at h; cases h
      · rw [show getD (resE 3) (Str.ofString "Resources") = .ref 9 0 from if_pos rfl, show fetchD t (.ref 9 0) = .none by simp only [fetchD, q9]] at h; cases h
    rw [gB k e1 e2] at h
    by_cases e3 : k = Str.ofString "MediaBox"
    · rw [e3, f1] at h; exact hb c1 l h
    by_cases e4 : k = Str.ofString "CropBox"
    · rw [e4, f2] at h; exact hb c2 l h
    have := getD_right (k := k) (a := es) (b := []) (hrest k e3 e4)
    rw [List.append_nil] at this
    rw [this] at h; cases h
  · have bd : ∀ b k, (boxDue b k idx).length ≤ 1 := by intro b k; unfold boxDue; split <;> simp
    have bo : ∀ d b k, (boxOne d b k idx).length ≤ 1 := by intro d b k; unfold boxOne; split; simp; exact bd _ _
    have l1 := bo d1 b1 (Str.ofString "MediaBox")
    have l2 := bo d2 b2 (Str.ofString "CropBox")
    have l3 : (turnDue b idx).length ≤ 1 := by unfold turnDue; split <;> simp
    have l4 : (resDue way idx).length ≤ 1 := by unfold resDue; split <;> simp
    rw [hrows]
    simp only [List.length_append]
    split
    · simp; omega
    · omega
theorem msgRef_inj {q r : Int × Int} (hq : PairOk q) (hr : PairOk r) (h : msgRef q = msgRef r) : q = r := by
  ((k_extra "V1"; obtain ⟨a, b⟩ := q) <;> k_extra "V2")
  ((k_extra "V1"; obtain ⟨c, d⟩ := r) <;> k_extra "V2")
  ((k_extra "V1"; obtain ⟨h1, h2, h3, h4⟩ := hq) <;> k_extra "V2")
  ((k_extra "V1"; obtain ⟨g1, g2, g3, g4⟩ := hr) <;> k_extra "V2")
  dsimp only at h1 h2 h3 h4 g1 g2 g3 g4
  ((k_extra "V1"; obtain ⟨x, rfl⟩ := fin_of (n := 6) h1 h2 rfl) <;> k_extra "V2")
  ((k_extra "V1"; obtain ⟨y, rfl⟩ := fin_of (n := 2) h3 h4 rfl) <;> k_extra "V2")
  ((k_extra "V1"; obtain ⟨z, rfl⟩ := fin_of (n := 6) g1 g2 rfl) <;> k_extra "V2")
  ((k_extra "V1"; obtain ⟨t, rfl⟩ := fin_of (n := 2) g3 g4 rfl) <;> k_extra "V2")
  have key : ∀ (a : Fin 6) (b : Fin 2) (c : Fin 6) (d : Fin 2), msgRef ((a.val : Int) + 1, (b.val : Int) + 0) = msgRef ((c.val : Int) + 1, (d.val : Int) + 0) → a.val = c.val ∧ b.val = d.val := by decide +kernel
  rw [(key x y z t h).1, (key x y z t h).2]
theorem miss_eq (T : List (Int × Int × PV)) (k : Int) : ∀ (ps acc : List (Int × Int)), (∀ q ∈ ps, PairOk q) → (∀ q ∈ acc, PairOk q) → ps.foldl (missStep T k) (refRows T k acc) = refRows T k (addNew acc ps)
  | [], _, _, _ => rfl
  | q :: ps, acc, h, ha => by
    have hq := h q List.mem_cons_self
    have hps : ∀ r ∈ ps, PairOk r := fun r hr => h r (List.mem_cons_of_mem _ hr)
    have e1 : addNew acc (q :: ps) = addNew (if q ∈ acc then acc else acc ++ [q]) ps := rfl
    have step : missStep T k (refRows T k acc) q = refRows T k (if q ∈ acc then acc else acc ++ [q]) := by
      unfold missStep
      by_cases ht : thereD T q = true
      · rw [if_pos ht]
        split
        · rfl
        · simp only [refRows, List.flatMap_append, List.flatMap_cons, List.flatMap_nil, refRow, if_pos ht, List.append_nil]
      · rw [if_neg ht]
        have hmem : fnd "reference" k (msgRef q) ∈ refRows T k acc ↔ q ∈ acc := by
          constructor
          · intro hm
            ((k_extra "V1"; obtain ⟨r, hr, hr2⟩ := List.mem_flatMap.mp hm) <;> k_extra "V2")
            unfold refRow at hr2
            split at hr2
            · ((k_extra "V1"; cases hr2) <;> k_extra "V2")
            · have := List.mem_singleton.mp hr2
              have e : msgRef q = msgRef r := congrArg (fun x : Str × Int × Str => x.2.2) this
              rw [msgRef_inj hq (ha r hr) e]
              exact hr
          · intro hm
            refine List.mem_flatMap.mpr ⟨q, hm, ?_⟩
            rw [refRow, if_neg ht]
            exact List.mem_singleton.mpr rfl
        by_cases hm : q ∈ acc
        · rw [if_pos (hmem.mpr hm), if_pos hm]
        · rw [if_neg (fun x => hm (hmem.mp x)), if_neg hm]
          simp only [refRows, List.flatMap_append, List.flatMap_cons, List.flatMap_nil, List.append_nil]
          rw [refRow, if_neg ht]
    rw [List.foldl_cons, step, e1]
    refine miss_eq T k ps _ hps ?_
    split
    · exact ha
    · intro r hr
      ((k_extra "V1"; rcases List.mem_append.mp hr with hr | hr) <;> k_extra "V2")
      · exact ha r hr
      · rw [List.mem_singleton.mp hr]; exact hq
theorem addNew_sub : ∀ (ps acc : List (Int × Int)), (∀ q ∈ addNew acc ps, q ∈ acc ∨ q ∈ ps) ∧ (addNew acc ps).length ≤ acc.length + ps.length
  | [], acc => ⟨fun _ h => .inl h, by show acc.length ≤ acc.length + 0; omega⟩
  | q :: ps, acc => by
    ((k_extra "V1"; obtain ⟨h1, h2⟩ := addNew_sub ps (if q ∈ acc then acc else acc ++ [q])) <;> k_extra "V2")
    have e1 : addNew acc (q :: ps) = addNew (if q ∈ acc then acc else acc ++ [q]) ps := rfl
    rw [e1]
    refine ⟨fun r hr => ?_, ?_⟩
    · ((k_extra "V1"; rcases h1 r hr with h | h) <;> k_extra "V2")
      · split at h
        · exact .inl h
        · ((k_extra "V1"; rcases List.mem_append.mp h with h | h) <;> k_extra "V2")
          · exact .inl h
          · rw [List.mem_singleton.mp h]; exact .inr List.mem_cons_self
      · exact .inr (List.mem_cons_of_mem _ h)
    · have : (if q ∈ acc then acc else acc ++ [q]).length ≤ acc.length + 1 := by split <;> simp
      rw [List.length_cons]; omega
theorem refsF_refs (n : Nat) : ∀ ps : List (Int × Int), (ps.map refD).flatMap (refsF (n + 1)) = ps
  | [] => rfl
  | q :: ps => by rw [List.map_cons, List.flatMap_cons, refsF_refs n ps]; rfl
theorem dictK_vals : ∀ (ps : List (Int × Int)) (i : Nat), (dictK i ps).map (·.2) = ps.map refD
  | [], _ => rfl
  | q :: ps, i => by rw [dictK, List.map_cons, dictK_vals ps (i + 1)]; rfl
theorem sizeF_refs (n : Nat) : ∀ ps : List (Int × Int), ((ps.map refD).map (sizeF (n + 1))).sum = ps.length
  | [] => rfl
  | q :: ps => by rw [List.map_cons, List.map_cons, List.sum_cons, sizeF_refs n ps, List.length_cons]; show (1 + 0) + _ = _; omega
theorem told_refs (n : Nat) (ps : List (Int × Int)) : ∀ x ∈ ps.map refD, ToldOk (n + 1) x := by
  intro x hx
  ((k_extra "V1"; obtain ⟨q, _, rfl⟩ := List.mem_map.mp hx) <;> k_extra "V2")
  trivial
theorem dictK_keys {ps : List (Int × Int)} (h : ps.length ≤ 3) : Rising ((dictK 0 ps).map (·.1)) := by
  ((k_extra "V1"; rcases ps with _ | ⟨a, _ | ⟨b, _ | ⟨c, _ | ⟨d, r⟩⟩⟩⟩) <;> k_extra "V2")
  · exact List.Pairwise.nil
  · show List.Pairwise _ [keyK 0]; decide +kernel
  · show List.Pairwise _ [keyK 0, keyK 1]; decide +kernel
  · show List.Pairwise _ [keyK 0, keyK 1, keyK 2]; decide +kernel
  · simp at h
theorem dictK_length : ∀ (ps : List (Int × Int)) (i : Nat), (dictK i ps).length = ps.length
  | [], _ => rfl
  | q :: ps, i => by rw [dictK, List.length_cons, dictK_length ps, List.length_cons]
theorem dictK_told : ∀ (ps : List (Int × Int)) (i n : Nat), ∀ e ∈ dictK i ps, e.2 ≠ .none ∧ ToldOk (n + 1) e.2
  | [], _, _, _, h => nomatch h
  | q :: ps, i, n, e, h => by
    rw [dictK] at h
    ((k_extra "V1"; rcases List.mem_cons.mp h with rfl | h) <;> k_extra "V2")
    · exact ⟨(fun x => nomatch x), trivial⟩
    · exact dictK_told ps (i + 1) n e h
theorem rising_AB : Rising [("A" : Str), "B"] := by unfold Rising; decide +kernel
theorem holder_facts {ps : List (Int × Int)} {pv : PV} (hp : PairsOk ps) (h : HolderPV ps pv) : refsF 6 pv = ps ∧ ToldOk 6 pv ∧ sizeF 6 pv ≤ 900 := by
  ((k_extra "V1"; obtain ⟨hl, _⟩ := hp) <;> k_extra "V2")
  ((k_extra "V1"; rcases h with rfl | rfl | rfl) <;> k_extra "V2")
  · refine ⟨refsF_refs 4 ps, ⟨by rw [List.length_map]; omega, told_refs 4 ps⟩, ?_⟩
    show 1 + ((ps.map refD).map (sizeF 5)).sum ≤ 900
    rw [sizeF_refs 4]; omega
  · refine ⟨?_, ⟨by rw [dictK_length]; omega, dictK_keys hl, dictK_told ps 0 4⟩, ?_⟩
    · show ((dictK 0 ps).map (·.2)).flatMap (refsF 5) = ps
      rw [dictK_vals, refsF_refs 4]
    · show 1 + (((dictK 0 ps).map (·.2)).map (sizeF 5)).sum ≤ 900
      rw [dictK_vals, sizeF_refs 4]; omega
  · refine ⟨?_, ⟨by simp, ?_⟩, ?_⟩
    · show [] ++ ((ps.map refD).flatMap (refsF 3) ++ ([] ++ []) ++ ([] ++ [])) = ps
      rw [refsF_refs 2]; simp
    · intro x hx
      simp only [List.mem_cons, List.not_mem_nil, or_false] at hx
      ((k_extra "V1"; rcases hx with rfl | rfl | rfl) <;> k_extra "V2")
      · trivial
      · refine ⟨by simp, rising_AB, fun e he => ?_⟩
        simp only [List.mem_cons, List.not_mem_nil, or_false] at he
        ((k_extra "V1"; rcases he with rfl | rfl) <;> k_extra "V2")
        · exact ⟨(fun x => nomatch x), by rw [List.length_map]; omega, told_refs 2 ps⟩
        · exact ⟨(fun x => nomatch x), trivial⟩
      · trivial
    · show 1 + (1 + 0 + (1 + (1 + ((ps.map refD).map (sizeF 3)).sum + (1 + 0 + 0)) + (1 + 0 + 0))) ≤ 900
      rw [sizeF_refs 2]; omega
theorem holder_refsD {ps : List (Int × Int)} {pv : PV} (hp : PairsOk ps) (h : HolderPV ps pv) : refsD pv = addNew [] ps ∧ RefOk pv := by
  ((k_extra "V1"; obtain ⟨h1, h2, h3⟩ := holder_facts hp h) <;> k_extra "V2")
  have e : refsD pv = addNew [] ps := by rw [refsD, h1]
  ((k_extra "V1"; obtain ⟨s1, s2⟩ := addNew_sub ps []) <;> k_extra "V2")
  refine ⟨e, h2, h3, by rw [e]; have := hp.1; simp only [List.length_nil] at s2; omega, fun q hq => ?_⟩
  rw [e] at hq
  ((k_extra "V1"; obtain ⟨a, b, c, d⟩ := hp.2 q ((s1 q hq).resolve_left (fun x => nomatch x))) <;> k_extra "V2")
  omega
theorem laid_shape {i : Nat} {t : List (Int × Int × PV)} {h : List (Int × List (Int × Int))} {l : List Dat} (H : Laid i t h l) : ∃ t', t = (30, 0, .int 3) :: t' ∧ (t'.map (·.1)).Pairwise (· < ·) ∧ (∀ e ∈ t', 1 ≤ e.1 ∧ e.1 ≤ (i : Int) ∧ isRef e.2.2 = false ∧ RefOk e.2.2 ∧ ∀ es b, e.2.2 = .stream es b → b.size ≤ 7 ∧ ((∃ k, 0 ≤ k ∧ k ≤ 9 ∧ getD es (Str.ofString "Length") = .int k) ∨ getD es (Str.ofString "Length") = .name "Length" ∨ getD es (Str.ofString "Length") = .ref 30 0 ∨ getD es (Str.ofString "Length") = .none)) ∧
    ∀ T : List (Int × Int × PV), tabAt T 30 = some (0, .int 3) → (∀ e ∈ t', tabAt T e.1 = some e.2) → (t'.map (·.1)).flatMap (fun k => refRows T k (refsD (valOf T k))) = missAll T h ∧ ((t'.map (·.1)).flatMap (lenD T)).map rowD = l := by
  induction H with
  | zero => exact ⟨[], rfl, List.Pairwise.nil, (fun e he => nomatch he), fun T _ _ => ⟨rfl, rfl⟩⟩
  | skip _ ih =>
    ((k_extra "V1"; obtain ⟨t', rfl, h1, h2, h3⟩ := ih) <;> k_extra "V2")
    exact ⟨t', rfl, h1, fun e he => let ⟨a, b, c⟩ := h2 e he; ⟨a, by omega, c⟩, h3⟩
  | @strm i t h l rows es b _ hs ih =>
    ((k_extra "V1"; obtain ⟨t', rfl, h1, h2, h3⟩ := ih) <;> k_extra "V2")
    have hw : (∀ T, tabAt T 30 = some (0, .int 3) → tabAt T (1 + (i : Int)) = some (0, .stream es b) → refRows T (1 + (i : Int)) (refsD (.stream es b)) = [] ∧ (lenD T (1 + (i : Int))).map rowD = rows) ∧ RefOk (.stream es b) ∧ b.size ≤ 7 ∧ ((∃ k, 0 ≤ k ∧ k ≤ 9 ∧ getD es (Str.ofString "Length") = .int k) ∨ getD es (Str.ofString "Length") = .name "Length" ∨ getD es (Str.ofString "Length") = .ref 30 0 ∨ getD es (Str.ofString "Length") = .none) := by
      have hrl : ∀ s : Str, Rising [s] := fun s => List.pairwise_singleton _ _
      ((k_extra "V1"; obtain ⟨hb, ⟨k, k0, k9, rfl, rfl⟩ | ⟨rfl, rfl⟩ | ⟨rfl, rfl⟩ | ⟨rfl, rfl⟩⟩ := hs) <;> k_extra "V2")
      · have g : getD [((Str.ofString "Length", .int k) : Str × PV)] (Str.ofString "Length") = .int k := if_pos rfl
        refine ⟨fun T h30 hT => ⟨rfl, ?_⟩, ⟨⟨by simp, hrl _, by simp [ToldOk]⟩, by first | exact Nat.le_of_ble_eq_true rfl | simp [sizeF, partsPV], by first | exact Nat.le_of_ble_eq_true rfl | exact (fun _ h => (List.not_mem_nil h).elim) | (intro q hq; rw [List.mem_singleton.mp hq]; decide) | simp [refsD, refsF, partsPV, addNew], by first | exact Nat.le_of_ble_eq_true rfl | exact (fun _ h => (List.not_mem_nil h).elim) | (intro q hq; rw [List.mem_singleton.mp hq]; decide) | simp [refsD, refsF, partsPV, addNew]⟩, hb, .inl ⟨k, k0, k9, g⟩⟩
        simp only [lenD, hT, show (("Length" : Str)) = Str.ofString "Length" from rfl, g, fetchD, lenRow]
        split <;> rfl
      · have g : getD [((Str.ofString "Length", .name "Length") : Str × PV)] (Str.ofString "Length") = .name "Length" := if_pos rfl
        refine ⟨fun T h30 hT => ⟨rfl, ?_⟩, ⟨⟨by simp, hrl _, by simp [ToldOk]⟩, by first | exact Nat.le_of_ble_eq_true rfl | simp [sizeF, partsPV], by first | exact Nat.le_of_ble_eq_true rfl | exact (fun _ h => (List.not_mem_nil h).elim) | (intro q hq; rw [List.mem_singleton.mp hq]; decide) | simp [refsD, refsF, partsPV, addNew], by first | exact Nat.le_of_ble_eq_true rfl | exact (fun _ h => (List.not_mem_nil h).elim) | (intro q hq; rw [List.mem_singleton.mp hq]; decide) | simp [refsD, refsF, partsPV, addNew]⟩, hb, .inr (.inl g)⟩
        simp only [lenD, hT, show (("Length" : Str)) = Str.ofString "Length" from rfl, g, fetchD, lenRow]; rfl
      · have g : getD [((Str.ofString "Length", .ref 30 0) : Str × PV)] (Str.ofString "Length") = .ref 30 0 := if_pos rfl
        refine ⟨fun T h30 hT => ⟨?_, ?_⟩, ⟨⟨by simp, hrl _, by simp [ToldOk]⟩, by first | exact Nat.le_of_ble_eq_true rfl | simp [sizeF, partsPV], by first | exact Nat.le_of_ble_eq_true rfl | exact (fun _ h => (List.not_mem_nil h).elim) | (intro q hq; rw [List.mem_singleton.mp hq]; decide) | simp [refsD, refsF, partsPV, addNew], by first | exact Nat.le_of_ble_eq_true rfl | exact (fun _ h => (List.not_mem_nil h).elim) | (intro q hq; rw [List.mem_singleton.mp hq]; decide) | simp [refsD, refsF, partsPV, addNew]⟩, hb, .inr (.inr (.inl g))⟩
        · show refRow T _ (30, 0) ++ [] = []
          rw [refRow, if_pos (by simp [thereD, h30])]; rfl
        · simp only [lenD, hT, show (("Length" : Str)) = Str.ofString "Length" from rfl, g, fetchD, h30, lenRow]
          rw [if_pos trivial]
          show List.map rowD (if (3 : Int) = (b.size : Int) then [] else _) = if (3 : Int) = (b.size : Int) then [] else _
          split <;> rfl
      · refine ⟨fun T h30 hT => ⟨rfl, ?_⟩, ⟨⟨by simp, List.Pairwise.nil, by simp⟩, by first | exact Nat.le_of_ble_eq_true rfl | simp [sizeF, partsPV], by first | exact Nat.le_of_ble_eq_true rfl | exact (fun _ h => (List.not_mem_nil h).elim) | (intro q hq; rw [List.mem_singleton.mp hq]; decide) | simp [refsD, refsF, partsPV, addNew], by first | exact Nat.le_of_ble_eq_true rfl | exact (fun _ h => (List.not_mem_nil h).elim) | (intro q hq; rw [List.mem_singleton.mp hq]; decide) | simp [refsD, refsF, partsPV, addNew]⟩, hb, .inr (.inr (.inr rfl))⟩
        simp only [lenD, hT, getD, fetchD, lenRow]; rfl
    ((k_extra "V1"; obtain ⟨hT, ho, hb⟩ := hw) <;> k_extra "V2")
    refine ⟨t' ++ [(1 + (i : Int), 0, .stream es b)], rfl, ?_, ?_, fun T h30 hall => ?_⟩
    · rw [List.map_append]
      refine List.pairwise_append.mpr ⟨h1, List.pairwise_singleton _ _, fun x hx y hy => ?_⟩
      rw [List.mem_singleton.mp hy]
      ((k_extra "V1"; obtain ⟨e, he, rfl⟩ := List.mem_map.mp hx) <;> k_extra "V2")
      have := (h2 e he).2.1
      show e.1 < 1 + (i : Int)
      omega
    · intro e he
      ((k_extra "V1"; rcases List.mem_append.mp he with he | he) <;> k_extra "V2")
      · ((k_extra "V1"; obtain ⟨a, b', c⟩ := h2 e he) <;> k_extra "V2"); exact ⟨a, by omega, c⟩
      · rw [List.mem_singleton.mp he]
        exact ⟨by show (1 : Int) ≤ 1 + (i : Int); omega, by show 1 + (i : Int) ≤ ((i + 1 : Nat) : Int); omega, rfl, ho, fun es' b' e => by cases e; exact hb⟩
    · have hme := hall _ (List.mem_append_right _ (List.mem_singleton.mpr rfl))
      ((k_extra "V1"; obtain ⟨g1, g2⟩ := h3 T h30 fun e he => hall e (List.mem_append_left _ he)) <;> k_extra "V2")
      ((k_extra "V1"; obtain ⟨w1, w2⟩ := hT T h30 hme) <;> k_extra "V2")
      rw [List.map_append, List.flatMap_append, List.flatMap_append, List.map_append, g1, g2]
      refine ⟨?_, ?_⟩
      · rw [List.map_cons, List.map_nil, List.flatMap_cons, List.flatMap_nil, valOf, hme]
        show missAll T h ++ (refRows T (1 + (i : Int)) (refsD (.stream es b)) ++ []) = missAll T h
        rw [w1]; simp
      · rw [List.map_cons, List.map_nil, List.flatMap_cons, List.flatMap_nil, List.append_nil, w2]
  | @hold i t h l g ps pv _ hp hv g0 g1 ih =>
    ((k_extra "V1"; obtain ⟨t', rfl, h1, h2, h3⟩ := ih) <;> k_extra "V2")
    ((k_extra "V1"; obtain ⟨hr, ho⟩ := holder_refsD hp hv) <;> k_extra "V2")
    have hnr : isRef pv = false ∧ (∀ es b, pv ≠ .stream es b) := by rcases hv with rfl | rfl | rfl <;> exact ⟨rfl, fun _ _ e => nomatch e⟩
    refine ⟨t' ++ [(1 + (i : Int), g, pv)], rfl, ?_, ?_, fun T h30 hall => ?_⟩
    · rw [List.map_append]
      refine List.pairwise_append.mpr ⟨h1, List.pairwise_singleton _ _, fun x hx y hy => ?_⟩
      rw [List.mem_singleton.mp hy]
      ((k_extra "V1"; obtain ⟨e, he, rfl⟩ := List.mem_map.mp hx) <;> k_extra "V2")
      have := (h2 e he).2.1
      show e.1 < 1 + (i : Int)
      omega
    · intro e he
      ((k_extra "V1"; rcases List.mem_append.mp he with he | he) <;> k_extra "V2")
      · ((k_extra "V1"; obtain ⟨a, b', c⟩ := h2 e he) <;> k_extra "V2"); exact ⟨a, by omega, c⟩
      · rw [List.mem_singleton.mp he]
        exact ⟨by show (1 : Int) ≤ 1 + (i : Int); omega, by show 1 + (i : Int) ≤ ((i + 1 : Nat) : Int); omega, hnr.1, ho, fun es' b' e => absurd e (hnr.2 _ _)⟩
    · have hme := hall _ (List.mem_append_right _ (List.mem_singleton.mpr rfl))
      ((k_extra "V1"; obtain ⟨g1, g2⟩ := h3 T h30 fun e he => hall e (List.mem_append_left _ he)) <;> k_extra "V2")
      rw [List.map_append, List.flatMap_append, List.flatMap_append, List.map_append, g1, g2]
      refine ⟨?_, ?_⟩
      · rw [List.map_cons, List.map_nil, List.flatMap_cons, List.flatMap_nil, valOf, hme]
        have e : missD T (1 + (i : Int)) ps = refRows T (1 + (i : Int)) (addNew [] ps) := miss_eq T _ ps [] hp.2 (fun _ h => nomatch h)
        unfold missAll
        rw [List.flatMap_append, List.flatMap_cons, List.flatMap_nil]
        show _ ++ (refRows T (1 + (i : Int)) (refsD pv) ++ []) = _ ++ (missD T (1 + (i : Int)) ps ++ [])
        rw [hr, e]
      · rw [List.map_cons, List.map_nil, List.flatMap_cons, List.flatMap_nil, List.append_nil]
        have e : lenD T (1 + (i : Int)) = [] := by
          rw [lenD, hme]
          ((k_extra "V1"; rcases hv with rfl | rfl | rfl) <;> k_extra "V2") <;> rfl
        rw [e]; simp
theorem tabAt_app {a b : List (Int × Int × PV)} {x : Int} {r : Int × PV} (h : tabAt a x = some r) : tabAt (a ++ b) x = some r := by
  induction a with
  | nil => cases h
  | cons q a ih =>
    ((k_extra "V1"; obtain ⟨k, g, d⟩ := q) <;> k_extra "V2")
    rw [List.cons_append]
    by_cases e : k = x
    · rw [tabAt, if_pos e] at h ⊢; exact h
    · rw [tabAt, if_neg e] at h ⊢; exact ih h
theorem tabAt_mem {k g : Int} {d : PV} : ∀ {t : List (Int × Int × PV)}, tabAt t k = some (g, d) → (k, g, d) ∈ t
  | [], h => nomatch h
  | (k', g', d') :: t, h => by
    rw [tabAt] at h
    split at h
    · rename (k' = k) => e; cases h; rw [e]; exact List.mem_cons_self
    · exact List.mem_cons_of_mem _ (tabAt_mem h)
theorem tabAt_of {t : List (Int × Int × PV)} (h : (t.map (·.1)).Pairwise (· < ·)) : ∀ e ∈ t, tabAt t e.1 = some e.2 := by
  induction t with
  | nil => exact fun e he => nomatch he
  | cons q t ih =>
    ((k_extra "V1"; obtain ⟨k, g, d⟩ := q) <;> k_extra "V2")
    rw [List.map_cons, List.pairwise_cons] at h
    intro e he
    ((k_extra "V1"; rcases List.mem_cons.mp he with rfl | he) <;> k_extra "V2")
    · exact if_pos rfl
    · rw [tabAt, if_neg (Int.ne_of_lt (h.1 e.1 (List.mem_map.mpr ⟨e, he, rfl⟩)))]
      exact ih h.2 e he
theorem keysD_eq {tab : List (Int × Int × PV)} {ns : List Int} (h1 : ns.Perm (tab.map (·.1))) (h2 : ns.Pairwise (· < ·)) : keysD tab = ns := (keysD_uniq h1 (h2.imp fun h => Int.le_of_lt h)).symm
def endT (way : Int) : List (Int × Int × PV) := (31, 0, .name "Catalog") :: (if way = 0 then [] else [(32, 0, rootPV way)])
theorem root_facts {way : Int} (h0 : 0 ≤ way) (h7 : way < 7) : isRef (rootPV way) = false ∧ RefOk (rootPV way) ∧ (∀ es b, rootPV way ≠ .stream es b) ∧ (refsD (rootPV way) = [] ∨ refsD (rootPV way) = [(31, 0)]) ∧ (∀ es, rootPV way = .dict es → getD es (Str.ofString "Type") = .ref 31 0 ∨ isRef (getD es (Str.ofString "Type")) = false) := by
  have := int7 h0 h7
  have hr : ∀ s : Str, Rising [s] := fun s => List.pairwise_singleton _ _
  have g : ∀ d, getD [((Str.ofString "Type", d) : Str × PV)] (Str.ofString "Type") = d := fun d => if_pos rfl
  ((k_extra "V1"; rcases this with rfl | rfl | rfl | rfl | rfl | rfl | rfl) <;> k_extra "V2")
  · exact ⟨rfl, ⟨⟨by simp, hr _, by simp [ToldOk]⟩, by first | exact Nat.le_of_ble_eq_true rfl | simp [sizeF, partsPV, rootPV], by first | exact Nat.le_of_ble_eq_true rfl | exact (fun _ h => (List.not_mem_nil h).elim) | (intro q hq; rw [List.mem_singleton.mp hq]; decide) | simp [refsD, refsF, partsPV, addNew, rootPV], by first | exact Nat.le_of_ble_eq_true rfl | exact (fun _ h => (List.not_mem_nil h).elim) | (intro q hq; rw [List.mem_singleton.mp hq]; decide) | simp [refsD, refsF, partsPV, addNew, rootPV]⟩, fun _ _ e => (nomatch e), .inr rfl, fun es e => by cases e; exact .inl (g _)⟩
  · exact ⟨rfl, ⟨⟨by simp, hr _, by simp [ToldOk]⟩, by first | exact Nat.le_of_ble_eq_true rfl | simp [sizeF, partsPV, rootPV], by first | exact Nat.le_of_ble_eq_true rfl | exact (fun _ h => (List.not_mem_nil h).elim) | (intro q hq; rw [List.mem_singleton.mp hq]; decide) | simp [refsD, refsF, partsPV, addNew, rootPV], by first | exact Nat.le_of_ble_eq_true rfl | exact (fun _ h => (List.not_mem_nil h).elim) | (intro q hq; rw [List.mem_singleton.mp hq]; decide) | simp [refsD, refsF, partsPV, addNew, rootPV]⟩, fun _ _ e => (nomatch e), .inl rfl, fun es e => by cases e; exact .inr (by rw [g]; rfl)⟩
  · exact ⟨rfl, ⟨⟨by simp, hr _, by simp [ToldOk]⟩, by first | exact Nat.le_of_ble_eq_true rfl | simp [sizeF, partsPV, rootPV], by first | exact Nat.le_of_ble_eq_true rfl | exact (fun _ h => (List.not_mem_nil h).elim) | (intro q hq; rw [List.mem_singleton.mp hq]; decide) | simp [refsD, refsF, partsPV, addNew, rootPV], by first | exact Nat.le_of_ble_eq_true rfl | exact (fun _ h => (List.not_mem_nil h).elim) | (intro q hq; rw [List.mem_singleton.mp hq]; decide) | simp [refsD, refsF, partsPV, addNew, rootPV]⟩, fun _ _ e => (nomatch e), .inl rfl, fun es e => by cases e; exact .inr (by rw [g]; rfl)⟩
  · exact ⟨rfl, ⟨⟨by simp, List.Pairwise.nil, by simp⟩, by first | exact Nat.le_of_ble_eq_true rfl | simp [sizeF, partsPV, rootPV], by first | exact Nat.le_of_ble_eq_true rfl | exact (fun _ h => (List.not_mem_nil h).elim) | (intro q hq; rw [List.mem_singleton.mp hq]; decide) | simp [refsD, refsF, partsPV, addNew, rootPV], by first | exact Nat.le_of_ble_eq_true rfl | exact (fun _ h => (List.not_mem_nil h).elim) | (intro q hq; rw [List.mem_singleton.mp hq]; decide) | simp [refsD, refsF, partsPV, addNew, rootPV]⟩, fun _ _ e => (nomatch e), .inl rfl, fun es e => by cases e; exact .inr rfl⟩
  · exact ⟨rfl, ⟨⟨by simp, hr _, by simp [ToldOk]⟩, by first | exact Nat.le_of_ble_eq_true rfl | simp [sizeF, partsPV, rootPV], by first | exact Nat.le_of_ble_eq_true rfl | exact (fun _ h => (List.not_mem_nil h).elim) | (intro q hq; rw [List.mem_singleton.mp hq]; decide) | simp [refsD, refsF, partsPV, addNew, rootPV], by first | exact Nat.le_of_ble_eq_true rfl | exact (fun _ h => (List.not_mem_nil h).elim) | (intro q hq; rw [List.mem_singleton.mp hq]; decide) | simp [refsD, refsF, partsPV, addNew, rootPV]⟩, fun _ _ e => (nomatch e), .inl rfl, fun es e => by cases e; exact .inr (by rw [g]; rfl)⟩
  · exact ⟨rfl, ⟨trivial, by first | exact Nat.le_of_ble_eq_true rfl | simp [sizeF, partsPV, rootPV], by first | exact Nat.le_of_ble_eq_true rfl | exact (fun _ h => (List.not_mem_nil h).elim) | (intro q hq; rw [List.mem_singleton.mp hq]; decide) | simp [refsD, refsF, partsPV, addNew, rootPV], by first | exact Nat.le_of_ble_eq_true rfl | exact (fun _ h => (List.not_mem_nil h).elim) | (intro q hq; rw [List.mem_singleton.mp hq]; decide) | simp [refsD, refsF, partsPV, addNew, rootPV]⟩, fun _ _ e => (nomatch e), .inl rfl, fun es e => nomatch e⟩
  · exact ⟨rfl, ⟨⟨by simp, hr _, by simp [ToldOk]⟩, by first | exact Nat.le_of_ble_eq_true rfl | simp [sizeF, partsPV, rootPV], by first | exact Nat.le_of_ble_eq_true rfl | exact (fun _ h => (List.not_mem_nil h).elim) | (intro q hq; rw [List.mem_singleton.mp hq]; decide) | simp [refsD, refsF, partsPV, addNew, rootPV], by first | exact Nat.le_of_ble_eq_true rfl | exact (fun _ h => (List.not_mem_nil h).elim) | (intro q hq; rw [List.mem_singleton.mp hq]; decide) | simp [refsD, refsF, partsPV, addNew, rootPV]⟩, fun _ _ e => (nomatch e), .inr rfl, fun es e => by cases e; exact .inl (g _)⟩
theorem msg33 : msgRef (33, 0) = Str.ofString "to no object: 33 0" := by decide +kernel
theorem shelf_plain : ∀ tab held lens, Laid 5 tab held lens → PlainOk tab held lens := by
  intro tab held lens H way h0 h7
  ((k_extra "V1"; obtain ⟨lt, lh, ll, hfree⟩ := H.lens) <;> k_extra "V2")
  ((k_extra "V1"; obtain ⟨t', rfl, hpw, hent, hsum⟩ := laid_shape H) <;> k_extra "V2")
  ((k_extra "V1"; obtain ⟨rr, ro, rs, rrf, rty⟩ := root_facts h0 h7) <;> k_extra "V2")
  ((k_extra "V1"; obtain ⟨T, hTd⟩ : ∃ T, T = tabE ((30, 0, .int 3) :: t') way := ⟨_, rfl⟩) <;> k_extra "V2")
  have hTe : T = (30, 0, .int 3) :: (t' ++ endT way) := by
    rw [hTd]; unfold tabE endT
    simp only [List.cons_append, List.append_assoc, List.nil_append]
  have h30 : tabAt T 30 = some (0, .int 3) := by rw [hTe]; exact if_pos rfl
  have hk30 : ∀ e ∈ t', (30 : Int) ≠ e.1 := fun e he => by have := (hent e he).2.1; omega
  have hin : ∀ e ∈ t', tabAt T e.1 = some e.2 := by
    intro e he
    rw [hTe, tabAt, if_neg (hk30 e he)]
    exact tabAt_app (tabAt_of hpw e he)
  have hout : ∀ x : Int, 30 < x → tabAt T x = tabAt (endT way) x := by
    intro x hx
    rw [hTe, tabAt, if_neg (by omega)]
    refine tabAt_append ?_
    have := hfree x (by omega) (Or.inr (by omega))
    rwa [tabAt, if_neg (by omega)] at this
  have h31 : tabAt T 31 = some (0, .name "Catalog") := by rw [hout 31 (by decide)]; exact if_pos rfl
  have h32 : way ≠ 0 → tabAt T 32 = some (0, rootPV way) := fun hw => by
    rw [hout 32 (by decide), endT, if_neg hw, tabAt, if_neg (by decide)]; exact if_pos rfl
  have h33 : tabAt T 33 = none := by
    rw [hout 33 (by decide), endT, tabAt, if_neg (by decide)]
    split
    · rfl
    · rw [tabAt, if_neg (by decide)]; rfl
  ((k_extra "V1"; obtain ⟨hs1, hs2⟩ := hsum T h30 hin) <;> k_extra "V2")
  -- every entry is good
  have hall : ∀ k g d, tabAt T k = some (g, d) → isRef d = false ∧ RefOk d ∧ ∀ es b, d = .stream es b → FetchOk T (getD es (Str.ofString "Length")) ∧ b.size ≤ 7 ∧ (∀ n, fetchD T (getD es (Str.ofString "Length")) = .int n → 0 ≤ n ∧ n ≤ 9) := by
    intro k g d h
    have hm := tabAt_mem h
    rw [hTe] at hm
    have hat : ∀ s : Str, RefOk (.name s) := fun s => ⟨trivial, by first | exact Nat.le_of_ble_eq_true rfl | simp [sizeF, partsPV], by first | exact Nat.le_of_ble_eq_true rfl | exact (fun _ h => (List.not_mem_nil h).elim) | (intro q hq; rw [List.mem_singleton.mp hq]; decide) | simp [refsD, refsF, partsPV, addNew], by first | exact Nat.le_of_ble_eq_true rfl | exact (fun _ h => (List.not_mem_nil h).elim) | (intro q hq; rw [List.mem_singleton.mp hq]; decide) | simp [refsD, refsF, partsPV, addNew]⟩
    have hai : ∀ s : Int, RefOk (.int s) := fun s => ⟨trivial, by first | exact Nat.le_of_ble_eq_true rfl | simp [sizeF, partsPV], by first | exact Nat.le_of_ble_eq_true rfl | exact (fun _ h => (List.not_mem_nil h).elim) | (intro q hq; rw [List.mem_singleton.mp hq]; decide) | simp [refsD, refsF, partsPV, addNew], by first | exact Nat.le_of_ble_eq_true rfl | exact (fun _ h => (List.not_mem_nil h).elim) | (intro q hq; rw [List.mem_singleton.mp hq]; decide) | simp [refsD, refsF, partsPV, addNew]⟩
    ((k_extra "V1"; rcases List.mem_cons.mp hm with e | hm) <;> k_extra "V2")
    · ((k_extra "V1"; cases e) <;> k_extra "V2"); exact ⟨rfl, hai _, fun _ _ e => nomatch e⟩
    ((k_extra "V1"; rcases List.mem_append.mp hm with hm | hm) <;> k_extra "V2")
    · ((k_extra "V1"; obtain ⟨_, _, a, b, c⟩ := hent _ hm) <;> k_extra "V2")
      refine ⟨a, b, fun es b' e => ?_⟩
      ((k_extra "V1"; obtain ⟨c1, c2⟩ := c es b' e) <;> k_extra "V2")
      refine ⟨?_, c1, ?_⟩
      · ((k_extra "V1"; rcases c2 with ⟨k, _, _, e⟩ | e | e | e) <;> k_extra "V2") <;> rw [e] <;> first | trivial | exact ⟨Int.le_refl 0, fun g' x h => by rw [h30] at h; cases h; rfl⟩
      · intro n hn
        ((k_extra "V1"; rcases c2 with ⟨k, k0, k9, e⟩ | e | e | e) <;> k_extra "V2") <;> rw [e] at hn
        · ((k_extra "V1"; cases hn) <;> k_extra "V2"); exact ⟨k0, k9⟩
        · ((k_extra "V1"; cases hn) <;> k_extra "V2")
        · rw [show fetchD T (.ref 30 0) = .int 3 by simp only [fetchD, h30]; exact if_pos trivial] at hn
          ((k_extra "V1"; cases hn) <;> k_extra "V2"); exact ⟨by decide, by decide⟩
        · ((k_extra "V1"; cases hn) <;> k_extra "V2")
    · unfold endT at hm
      ((k_extra "V1"; rcases List.mem_cons.mp hm with e | hm) <;> k_extra "V2")
      · ((k_extra "V1"; cases e) <;> k_extra "V2"); exact ⟨rfl, hat _, fun _ _ e => nomatch e⟩
      · split at hm
        · ((k_extra "V1"; cases hm) <;> k_extra "V2")
        · cases List.mem_singleton.mp hm
          exact ⟨rr, ro, fun es b e => absurd e (rs es b)⟩
  -- the keys
  have hkeys : keysD T = t'.map (·.1) ++ (30 :: (endT way).map (·.1)) := by
    refine keysD_eq ?_ ?_
    · rw [hTe, List.map_cons, List.map_append]
      exact List.perm_middle
    · refine List.pairwise_append.mpr ⟨hpw, ?_, fun x hx y hy => ?_⟩
      · unfold endT; split <;> simp
      · ((k_extra "V1"; obtain ⟨e, he, rfl⟩ := List.mem_map.mp hx) <;> k_extra "V2")
        have h1 := (hent e he).2.1
        have h2 : 30 ≤ y := by
          unfold endT at hy
          split at hy <;> simp at hy <;> omega
        show e.1 < y
        omega
  have v30 : valOf T 30 = .int 3 := by rw [valOf, h30]
  have v31 : valOf T 31 = .name "Catalog" := by rw [valOf, h31]
  have l30 : lenD T 30 = [] := by rw [lenD, h30]
  have l31 : lenD T 31 = [] := by rw [lenD, h31]
  have t31 : thereD T (31, 0) = true := by simp [thereD, h31]
  have hroots : (endT way).map (·.1) = 31 :: (if way = 0 then [] else [32]) := by unfold endT; split <;> rfl
  have hrefs : refsAll T (trE way) = missAll T held ++ dueT way := by
    unfold refsAll
    rw [hkeys, List.flatMap_append, hs1, hroots, List.flatMap_cons, List.flatMap_cons, v30, v31, show refsD (.int 3) = [] from rfl, show refsD (.name "Catalog") = [] from rfl]
    rw [List.append_assoc]
    congr 1
    by_cases hw : way = 0
    · subst hw
      rw [show trE 0 = [(("Info" : Str), .ref 33 0)] from rfl, show refsD (.dict [(("Info" : Str), .ref 33 0)]) = [(33, 0)] from rfl, show dueT 0 = [fnd "reference" (-1) "to no object: 33 0"] from rfl, if_pos rfl]
      show refRow T (-1) (33, 0) ++ [] = _
      rw [refRow, if_neg (by simp [thereD, h33]), msg33]
      rfl
    · have h2 := h32 hw
      have t32 : thereD T (32, 0) = true := by simp [thereD, h2]
      rw [if_neg hw, show trE way = [(("Root" : Str), .ref 32 0)] from if_neg hw, show refsD (.dict [(("Root" : Str), .ref 32 0)]) = [(32, 0)] from rfl, show dueT way = [] from if_neg hw, List.flatMap_cons, List.flatMap_nil, valOf, h2]
      have e1 : refRows T (-1) [(32, 0)] = [] := by show refRow T (-1) (32, 0) ++ [] = []; rw [refRow, if_pos t32]; rfl
      have e2 : refRows T 32 (refsD (rootPV way)) = [] := by
        ((k_extra "V1"; rcases rrf with e | e) <;> k_extra "V2") <;> rw [e]
        · rfl
        · show refRow T 32 (31, 0) ++ [] = []; rw [refRow, if_pos t31]; rfl
      show refRows T 30 [] ++ (refRows T 31 [] ++ (refRows T 32 (refsD (rootPV way)) ++ [])) ++ refRows T (-1) [(32, 0)] = []
      rw [e1, e2]; rfl
  have hlens : (lensAll T).map rowD = lens := by
    unfold lensAll
    rw [hkeys, List.flatMap_append, hroots, List.flatMap_cons, List.flatMap_cons, l30, l31, List.map_append, hs2]
    have e : (if way = 0 then ([] : List Int) else [32]).flatMap (lenD T) = [] := by
      split
      · rfl
      · rename (¬ way = 0) => hw
        rw [List.flatMap_cons, List.flatMap_nil, lenD, h32 hw]
        have := rs
        cases hrp : rootPV way with
        | stream es b => exact absurd hrp (rs es b)
        | _ => rfl
    rw [e]; simp
  have hml : ∀ hs : List (Int × List (Int × Int)), (∀ q ∈ hs, PairsOk q.2) → (missAll T hs).length ≤ 3 * hs.length := by
    intro hs
    induction hs with
    | nil => intro _; exact Nat.le_refl _
    | cons q hs ih =>
      intro h
      have h1 := missD_len T q.1 (h q List.mem_cons_self)
      have h2 := ih fun r hr => h r (List.mem_cons_of_mem _ hr)
      unfold missAll at h2 ⊢
      rw [List.flatMap_cons, List.length_append, List.length_cons]; omega
  have hheld : ∀ {i : Nat} {t : List (Int × Int × PV)} {h : List (Int × List (Int × Int))} {l : List Dat}, Laid i t h l → ∀ q ∈ h, PairsOk q.2 := by
    intro i t h l H
    induction H with
    | zero => exact fun q hq => nomatch hq
    | skip _ ih => exact ih
    | strm _ _ ih => exact ih
    | hold _ hp _ _ _ ih =>
      intro q hq
      ((k_extra "V1"; rcases List.mem_append.mp hq with hq | hq) <;> k_extra "V2")
      · exact ih q hq
      · rw [List.mem_singleton.mp hq]; exact hp
  have hgT : way = 0 → getD (trE way) (Str.ofString "Root") = .none := fun hw => by
    subst hw
    show (if (("Info" : Str)) = Str.ofString "Root" then _ else _) = _
    exact if_neg (by decide +kernel)
  have hgR : way ≠ 0 → getD (trE way) (Str.ofString "Root") = .ref 32 0 := fun hw => by
    rw [show trE way = [(("Root" : Str), .ref 32 0)] from if_neg hw]; exact if_pos rfl
  have hfR : way ≠ 0 → fetchD T (getD (trE way) (Str.ofString "Root")) = rootPV way := fun hw => by
    rw [hgR hw]; simp only [fetchD, h32 hw]; exact if_pos trivial
  have hRefT : RefOk (.dict (trE way)) := by
    have hr : ∀ s : Str, Rising [s] := fun s => List.pairwise_singleton _ _
    by_cases hw : way = 0
    · rw [show trE way = [(("Info" : Str), .ref 33 0)] from if_pos hw]
      exact ⟨⟨by simp, hr _, by simp [ToldOk]⟩, by first | exact Nat.le_of_ble_eq_true rfl | simp [sizeF, partsPV], by first | exact Nat.le_of_ble_eq_true rfl | exact (fun _ h => (List.not_mem_nil h).elim) | (intro q hq; rw [List.mem_singleton.mp hq]; decide) | simp [refsD, refsF, partsPV, addNew], by first | exact Nat.le_of_ble_eq_true rfl | exact (fun _ h => (List.not_mem_nil h).elim) | (intro q hq; rw [List.mem_singleton.mp hq]; decide) | simp [refsD, refsF, partsPV, addNew]⟩
    · rw [show trE way = [(("Root" : Str), .ref 32 0)] from if_neg hw]
      exact ⟨⟨by simp, hr _, by simp [ToldOk]⟩, by first | exact Nat.le_of_ble_eq_true rfl | simp [sizeF, partsPV], by first | exact Nat.le_of_ble_eq_true rfl | exact (fun _ h => (List.not_mem_nil h).elim) | (intro q hq; rw [List.mem_singleton.mp hq]; decide) | simp [refsD, refsF, partsPV, addNew], by first | exact Nat.le_of_ble_eq_true rfl | exact (fun _ h => (List.not_mem_nil h).elim) | (intro q hq; rw [List.mem_singleton.mp hq]; decide) | simp [refsD, refsF, partsPV, addNew]⟩
  rw [← hTd]
  refine ⟨⟨fun k g d h => (hall k g d h).2.1.1, hRefT.1, fun k g d h => (hall k g d h).2.1, hRefT, fun k g es b h => (hall k g _ h).2.2 es b rfl, ?_, ?_, ?_, ?_⟩, ?_, hrefs, hlens⟩
  · show FetchOk T (getD (trE way) (Str.ofString "Root"))
    by_cases hw : way = 0
    · rw [hgT hw]; trivial
    · rw [hgR hw]; exact ⟨Int.le_refl 0, fun g' x e => by rw [h32 hw] at e; cases e; exact rr⟩
  · intro es h
    show FetchOk T (getD es (Str.ofString "Type"))
    replace h : fetchD T (getD (trE way) (Str.ofString "Root")) = .dict es := h
    by_cases hw : way = 0
    · rw [hgT hw] at h; cases h
    · rw [hfR hw] at h
      ((k_extra "V1"; rcases rty es h with e | e) <;> k_extra "V2")
      · rw [e]; exact ⟨Int.le_refl 0, fun g' x e => by rw [h31] at e; cases e; rfl⟩
      · cases hx : getD es (Str.ofString "Type") <;> first | trivial | (rw [hx] at e; exact nomatch e)
  · rw [hrefs, List.length_append]
    have h1 := hml held (hheld H)
    have h2 : (dueT way).length ≤ 1 := by unfold dueT; split <;> simp
    omega
  · have := congrArg List.length hlens
    rw [List.length_map] at this
    omega
  · unfold rootD
    rw [show (("Root" : Str)) = Str.ofString "Root" from rfl, show (("Type" : Str)) = Str.ofString "Type" from rfl]
    have hway := int7 h0 h7
    have g : ∀ d, getD [((Str.ofString "Type", d) : Str × PV)] (Str.ofString "Type") = d := fun d => if_pos rfl
    have f31 : fetchD T (.ref 31 0) = .name "Catalog" := by simp only [fetchD, h31]; exact if_pos trivial
    ((k_extra "V1"; rcases hway with rfl | rfl | rfl | rfl | rfl | rfl | rfl) <;> k_extra "V2")
    · rw [hgT rfl]; rfl
    · rw [hfR (by decide)]; show (if nameD (fetchD T (getD [((Str.ofString "Type", .name "Catalog") : Str × PV)] (Str.ofString "Type"))) = _ then _ else _) = _; rw [g]; rfl
    · rw [hfR (by decide)]; show (if nameD (fetchD T (getD [((Str.ofString "Type", .name "Pages") : Str × PV)] (Str.ofString "Type"))) = _ then _ else _) = _; rw [g]; exact if_neg (by show ¬ (Str.ofString "Pages" = Str.ofString "Catalog"); decide +kernel)
    · rw [hfR (by decide)]; exact if_neg (by show ¬ (Str.ofString "" = Str.ofString "Catalog"); decide +kernel)
    · rw [hfR (by decide)]; show (if nameD (fetchD T (getD [((Str.ofString "Type", .string _) : Str × PV)] (Str.ofString "Type"))) = _ then _ else _) = _; rw [g]; exact if_neg (by show ¬ (Str.ofString "" = Str.ofString "Catalog"); decide +kernel)
    · rw [hfR (by decide)]; rfl
    · rw [hfR (by decide)]; show (if nameD (fetchD T (getD [((Str.ofString "Type", .ref 31 0) : Str × PV)] (Str.ofString "Type"))) = _ then _ else _) = _; rw [g, f31]; rfl
theorem law_holds : PySem.Challenge.rw_nn0128_01.Holds := law_from (fun w p c o oc fr N a b d e f => shelf_right_ok w shelf_plain p c o oc fr N a b d e f) (fun w p c o oc fr N a b d e f => fields_right_ok w fields_plain p c o oc fr N a b d e f)
end Mine
theorem PySem.Challenge.cw_nn0128_01_holds : PySem.Challenge.rw_nn0128_01.Holds :=
  Mine.law_holds
