import PyProof.Rows.All
import Wide.All
import OpenK.AllK
import Wide.FinOn
import PySem.Challenge.RW_xm0658_01
open PySem PySem.W PyProof.Rows
set_option Elab.async false
set_option maxRecDepth 100000
namespace Mine
abbrev pw : Program := PySem.Challenge.pw_xm0658_01
abbrev rw0 : OpenLaw := PySem.Challenge.rw_xm0658_01
/-- the parts of a def that the text writes, by its place -/
def fnParts : List Stmt → List Nat → Option (Arguments × List Stmt × Scope)
  | _, [] => none
  | b, [i] => match b[i]? with
    | some (.FunctionDef _ a c _ _ _ s _ _ _) => some (a, c, s)
    | _ => none
  | b, i :: r => match b[i]? with
    | some (.ClassDef _ _ _ c _ _ _ _ _ _ _) => fnParts c r
    | _ => none
abbrev pick3 {α β γ δ : Type} {x : Option (α × β × γ)} {a : α} {b : β} {c : γ} (_ : x = some (a, b, c)) (f : α → β → γ → δ) : δ := f a b c
noncomputable def hd.o_43 : Params → Obj := fun _ => Obj.mk (Value.type "tuple") none (Data.seq #[] 0) #[]
noncomputable def hd.o_44 : Params → Obj := fun _ => Obj.mk Value.none none (Data.fields #[]) #[]
noncomputable def hd.o_45 : Params → Obj := fun _ => Obj.mk (Value.type "code") none (Data.fields #[Value.str (Str.ofString "<module>") 182, Value.str (Str.ofString "<module>") 183, Value.str (Str.ofString "/claim/cut.py") 184, Value.int 1 0, Value.int 0 0, Value.int 0 0, Value.int 0 0, Value.int 0 0, Value.ref 11, Value.bool false, Value.int 181 0, Value.ref 12, Value.none, Value.none, Value.none, Value.none, Value.int 185 0, Value.int 1 0, Value.str (Str.ofString "/claim/cut.py") 186]) #[]
noncomputable def hd.o_46 : Params → Obj := fun _ => Obj.mk (Value.type "frame") none Data.plain #[some (Value.ref 13), some (Value.ref 3), some (Value.ref 3), none, some (Value.str (Str.ofString "__main__") 164), none, some (Value.ref 0)]
noncomputable def hd.heap_46 : Params → Heap := fun P => Heap.mk (Array.mk [boot_o_0 P, boot_o_1 P, boot_o_2 P, boot_o_3 P, boot_o_4 P, boot_o_5 P, boot_o_6 P, boot_o_7 P, boot_o_8 P, boot_o_9 P, boot_o_10 P, hd.o_43 P, hd.o_44 P, hd.o_45 P, hd.o_46 P]) (Life.mk [] [] [] 0 [] [] false #[] [] 0 false false false 0 [2000, 10, 10] false 0 true [] [] 0 false)
noncomputable def hd.tree_47 : Params → BT := fun P => BT.node (boot_o_0 P) (BT.node (boot_o_1 P) (BT.node (boot_o_3 P) (BT.node (boot_o_7 P) BT.nil BT.nil) (BT.node (hd.o_43 P) BT.nil BT.nil)) (BT.node (boot_o_5 P) (BT.node (boot_o_9 P) BT.nil BT.nil) (BT.node (hd.o_45 P) BT.nil BT.nil))) (BT.node (boot_o_2 P) (BT.node (boot_o_4 P) (BT.node (boot_o_8 P) BT.nil BT.nil) (BT.node (hd.o_44 P) BT.nil BT.nil)) (BT.node (boot_o_6 P) (BT.node (boot_o_10 P) BT.nil BT.nil) (BT.node (hd.o_46 P) BT.nil BT.nil)))
noncomputable def hd.o_49 : Params → Obj := fun P => Obj.mk Value.none none (Data.dict #[DictEntry.mk (PyData.keyHash P (Str.ofString "type.__subclasses__.Exception.0")) (Value.str (Str.ofString "type.__subclasses__.Exception.0") 221) (Value.int 38 0), DictEntry.mk (PyData.keyHash P (Str.ofString "type.__subclasses__.Exception.n")) (Value.str (Str.ofString "type.__subclasses__.Exception.n") 222) (Value.int 1 0)] 2) #[]
noncomputable def hd.o_50 : Params → Obj := fun P => Obj.mk (Value.type "dict") none (Data.dict #[DictEntry.mk (PyData.keyHash P (Str.ofString "__name__")) (Value.str (Str.ofString "__name__") 165) (Value.str (Str.ofString "markupmill.xpath_nodes") 241), DictEntry.mk (PyData.keyHash P (Str.ofString "__doc__")) (Value.str (Str.ofString "__doc__") 166) Value.none, DictEntry.mk (PyData.keyHash P (Str.ofString "__package__")) (Value.str (Str.ofString "__package__") 167) Value.none, DictEntry.mk (PyData.keyHash P (Str.ofString "__loader__")) (Value.str (Str.ofString "__loader__") 168) (Value.builtin "__main__.__loader__#opaque"), DictEntry.mk (PyData.keyHash P (Str.ofString "__spec__")) (Value.str (Str.ofString "__spec__") 169) Value.none, DictEntry.mk (PyData.keyHash P (Str.ofString "__annotations__")) (Value.str (Str.ofString "__annotations__") 170) (Value.ref 6), DictEntry.mk (PyData.keyHash P (Str.ofString "__builtins__")) (Value.str (Str.ofString "__builtins__") 171) (Value.ref 4), DictEntry.mk (PyData.keyHash P (Str.ofString "__file__")) (Value.str (Str.ofString "__file__") 173) (Value.str (Str.ofString "/claim/cut.py") 172), DictEntry.mk (PyData.keyHash P (Str.ofString "__cached__")) (Value.str (Str.ofString "__cached__") 174) Value.none, DictEntry.mk (PyData.keyHash P (Str.ofString "_wall")) (Value.str (Str.ofString "_wall") 193) (Value.ref 21), DictEntry.mk (PyData.keyHash P (Str.ofString "MarkupError")) (Value.str (Str.ofString "MarkupError") 224) (Value.ref 38), DictEntry.mk (PyData.keyHash P (Str.ofString "PathFault")) (Value.str (Str.ofString "PathFault") 240) (Value.ref 51), DictEntry.mk (PyData.keyHash P (Str.ofString "Literal")) (Value.str (Str.ofString "Literal") 278) (Value.ref 77), DictEntry.mk (PyData.keyHash P (Str.ofString "NumberNode")) (Value.str (Str.ofString "NumberNode") 314) (Value.ref 105)] 14) #[]
noncomputable def hd.o_51 : Params → Obj := fun _ => Obj.mk Value.none none (Data.fields #[Value.int 1 0, Value.int 0 0, Value.ref 20, Value.int 5 0, Value.int 0 0, Value.ref 27, Value.int 10 0, Value.int 0 0, Value.ref 47, Value.int 13 0, Value.int 0 0, Value.ref 59, Value.int 20 0, Value.int 0 0, Value.ref 87]) #[]
noncomputable def hd.o_52 : Params → Obj := fun _ => Obj.mk (Value.type "tuple") none (Data.seq #[] 0) #[]
noncomputable def hd.o_53 : Params → Obj := fun _ => Obj.mk Value.none none (Data.fields #[]) #[]
noncomputable def hd.o_54 : Params → Obj := fun _ => Obj.mk (Value.type "tuple") none (Data.seq #[Value.str (Str.ofString "k") 190] 0) #[]
noncomputable def hd.o_55 : Params → Obj := fun _ => Obj.mk (Value.type "tuple") none (Data.seq #[] 0) #[]
noncomputable def hd.o_56 : Params → Obj := fun _ => pick3 (x := fnParts pw.main.body [0]) rfl fun p b s => Obj.mk Value.none none (Data.func (FuncData.mk (Str.ofString "_wall") (Str.ofString "_wall") p (FuncBody.stmts b) s 0 [] Value.none Value.none Value.none Value.none none Value.none Value.none 0)) #[]
noncomputable def hd.o_57 : Params → Obj := fun _ => Obj.mk (Value.type "code") none (Data.fields #[Value.str (Str.ofString "_wall") 187, Value.str (Str.ofString "_wall") 188, Value.str (Str.ofString "/claim/cut.py") 189, Value.int 1 0, Value.int 1 0, Value.int 0 0, Value.int 0 0, Value.int 3 0, Value.ref 15, Value.bool true, Value.int 181 0, Value.ref 16, Value.none, Value.ref 17, Value.ref 18, Value.ref 19, Value.int 191 0, Value.int 1 0, Value.str (Str.ofString "/claim/cut.py") 192]) #[]
noncomputable def hd.o_58 : Params → Obj := fun _ => pick3 (x := fnParts pw.main.body [0]) rfl fun p b s => Obj.mk (Value.type "function") none (Data.func (FuncData.mk (Str.ofString "_wall") (Str.ofString "_wall") p (FuncBody.stmts b) s 3 [] Value.none Value.none Value.none (Value.str (Str.ofString "__main__") 164) none (Value.ref 20) Value.none 0)) #[]
noncomputable def hd.o_59 : Params → Obj := fun _ => Obj.mk (Value.type "tuple") none (Data.seq #[Value.type "Exception"] 0) #[]
noncomputable def hd.o_60 : Params → Obj := fun _ => Obj.mk (Value.type "builtin_function_or_method") none (Data.fields #[Value.builtin "type.__prepare__", Value.type "type"]) #[]
noncomputable def hd.o_61 : Params → Obj := fun P => Obj.mk (Value.type "dict") none (Data.dict #[DictEntry.mk (PyData.keyHash P (Str.ofString "__module__")) (Value.str (Str.ofString "__module__") 203) (Value.str (Str.ofString "markupmill.errors") 194), DictEntry.mk (PyData.keyHash P (Str.ofString "__qualname__")) (Value.str (Str.ofString "__qualname__") 205) (Value.str (Str.ofString "MarkupError") 204), DictEntry.mk (PyData.keyHash P (Str.ofString "__firstlineno__")) (Value.str (Str.ofString "__firstlineno__") 207) (Value.int 5 206), DictEntry.mk (PyData.keyHash P (Str.ofString "__init__")) (Value.str (Str.ofString "__init__") 215) (Value.ref 35), DictEntry.mk (PyData.keyHash P (Str.ofString "__static_attributes__")) (Value.str (Str.ofString "__static_attributes__") 217) (Value.ref 36)] 5) #[]
noncomputable def hd.o_62 : Params → Obj := fun _ => Obj.mk (Value.type "tuple") none (Data.seq #[] 0) #[]
noncomputable def hd.o_63 : Params → Obj := fun _ => Obj.mk Value.none none (Data.fields #[Value.int 7 0, Value.int 4 0, Value.ref 34]) #[]
noncomputable def hd.o_64 : Params → Obj := fun _ => Obj.mk (Value.type "code") none (Data.fields #[Value.str (Str.ofString "MarkupError") 198, Value.str (Str.ofString "MarkupError") 199, Value.str (Str.ofString "/claim/cut.py") 200, Value.int 5 0, Value.int 0 0, Value.int 0 0, Value.int 0 0, Value.int 0 0, Value.ref 25, Value.bool false, Value.int 181 0, Value.ref 26, Value.none, Value.none, Value.none, Value.none, Value.int 201 0, Value.int 5 0, Value.str (Str.ofString "/claim/cut.py") 202]) #[]
noncomputable def hd.o_65 : Params → Obj := fun _ => Obj.mk (Value.type "frame") none Data.plain #[some (Value.ref 27), some (Value.ref 3), some (Value.ref 24), none, some (Value.str (Str.ofString "markupmill.errors") 194), none, some (Value.ref 0)]
noncomputable def hd.o_66 : Params → Obj := fun _ => Obj.mk (Value.type "tuple") none (Data.seq #[] 0) #[]
noncomputable def hd.o_67 : Params → Obj := fun _ => Obj.mk Value.none none (Data.fields #[]) #[]
noncomputable def hd.o_68 : Params → Obj := fun _ => Obj.mk (Value.type "tuple") none (Data.seq #[Value.str (Str.ofString "self") 211, Value.str (Str.ofString "message") 212] 0) #[]
noncomputable def hd.o_69 : Params → Obj := fun _ => Obj.mk (Value.type "tuple") none (Data.seq #[] 0) #[]
noncomputable def hd.o_70 : Params → Obj := fun _ => pick3 (x := fnParts pw.main.body [2, 0]) rfl fun p b s => Obj.mk Value.none none (Data.func (FuncData.mk (Str.ofString "__init__") (Str.ofString "MarkupError.__init__") p (FuncBody.stmts b) s 0 [] Value.none Value.none Value.none Value.none none Value.none Value.none 0)) #[]
noncomputable def hd.o_71 : Params → Obj := fun _ => Obj.mk (Value.type "code") none (Data.fields #[Value.str (Str.ofString "__init__") 208, Value.str (Str.ofString "MarkupError.__init__") 209, Value.str (Str.ofString "/claim/cut.py") 210, Value.int 7 0, Value.int 2 0, Value.int 0 0, Value.int 0 0, Value.int 3 0, Value.ref 29, Value.bool true, Value.int 181 0, Value.ref 30, Value.none, Value.ref 31, Value.ref 32, Value.ref 33, Value.int 213 0, Value.int 7 0, Value.str (Str.ofString "/claim/cut.py") 214]) #[]
noncomputable def hd.o_72 : Params → Obj := fun _ => pick3 (x := fnParts pw.main.body [2, 0]) rfl fun p b s => Obj.mk (Value.type "function") none (Data.func (FuncData.mk (Str.ofString "__init__") (Str.ofString "MarkupError.__init__") p (FuncBody.stmts b) s 3 [] Value.none Value.none Value.none (Value.str (Str.ofString "markupmill.errors") 194) none (Value.ref 34) Value.none 0)) #[]
noncomputable def hd.o_73 : Params → Obj := fun _ => Obj.mk (Value.type "tuple") none (Data.seq #[Value.str (Str.ofString "message") 216] 0) #[]
noncomputable def hd.o_74 : Params → Obj := fun P => Obj.mk (Value.type "dict") none (Data.dict #[DictEntry.mk (PyData.keyHash P (Str.ofString "__module__")) (Value.str (Str.ofString "__module__") 203) (Value.str (Str.ofString "markupmill.errors") 194), DictEntry.mk (PyData.keyHash P (Str.ofString "__firstlineno__")) (Value.str (Str.ofString "__firstlineno__") 207) (Value.int 5 206), DictEntry.mk (PyData.keyHash P (Str.ofString "__init__")) (Value.str (Str.ofString "__init__") 215) (Value.ref 35), DictEntry.mk (PyData.keyHash P (Str.ofString "__static_attributes__")) (Value.str (Str.ofString "__static_attributes__") 217) (Value.ref 36), DictEntry.mk (PyData.keyHash P (Str.ofString "__weakref__")) (Value.str (Str.ofString "__weakref__") 219) (Value.ref 39), DictEntry.mk (PyData.keyHash P (Str.ofString "__doc__")) (Value.str (Str.ofString "__doc__") 220) Value.none] 3) #[]
noncomputable def hd.o_75 : Params → Obj := fun _ => Obj.mk (Value.type "type") none (Data.cls (ClassData.mk (Str.ofString "MarkupError") [Value.type "Exception"] [Value.ref 38, Value.type "Exception", Value.type "BaseException", Value.type "object"] 37 (Str.ofString "MarkupError") true [] [Value.ref 51] false none false)) #[some (Value.ref 22), none, some (Value.str (Str.ofString "MarkupError") 196), some (Value.str (Str.ofString "MarkupError") 204), some (Value.builtin "Exception.__new__"), some (Value.bool true)]
noncomputable def hd.o_76 : Params → Obj := fun _ => Obj.mk (Value.type "getset_descriptor") none (Data.fields #[Value.str (Str.ofString "__weakref__") 218, Value.ref 38, Value.builtin "ExceptionGroup.__weakref__", Value.none]) #[]
noncomputable def hd.o_77 : Params → Obj := fun _ => Obj.mk (Value.type "super") none (Data.fields #[Value.ref 38, Value.ref 38, Value.ref 38]) #[]
noncomputable def hd.o_78 : Params → Obj := fun _ => Obj.mk (Value.type "builtin_function_or_method") none (Data.fields #[Value.builtin "object.__init_subclass__", Value.ref 38]) #[]
noncomputable def hd.o_79 : Params → Obj := fun _ => Obj.mk (Value.type "tuple") none (Data.seq #[Value.ref 38] 0) #[]
noncomputable def hd.o_80 : Params → Obj := fun _ => Obj.mk (Value.type "builtin_function_or_method") none (Data.fields #[Value.builtin "type.__prepare__", Value.type "type"]) #[]
noncomputable def hd.o_81 : Params → Obj := fun P => Obj.mk (Value.type "dict") none (Data.dict #[DictEntry.mk (PyData.keyHash P (Str.ofString "__module__")) (Value.str (Str.ofString "__module__") 232) (Value.str (Str.ofString "markupmill.errors") 194), DictEntry.mk (PyData.keyHash P (Str.ofString "__qualname__")) (Value.str (Str.ofString "__qualname__") 234) (Value.str (Str.ofString "PathFault") 233), DictEntry.mk (PyData.keyHash P (Str.ofString "__firstlineno__")) (Value.str (Str.ofString "__firstlineno__") 236) (Value.int 10 235), DictEntry.mk (PyData.keyHash P (Str.ofString "__static_attributes__")) (Value.str (Str.ofString "__static_attributes__") 237) (Value.ref 49)] 4) #[]
noncomputable def hd.o_82 : Params → Obj := fun _ => Obj.mk (Value.type "tuple") none (Data.seq #[] 0) #[]
noncomputable def hd.o_83 : Params → Obj := fun _ => Obj.mk Value.none none (Data.fields #[]) #[]
noncomputable def hd.o_84 : Params → Obj := fun _ => Obj.mk (Value.type "code") none (Data.fields #[Value.str (Str.ofString "PathFault") 227, Value.str (Str.ofString "PathFault") 228, Value.str (Str.ofString "/claim/cut.py") 229, Value.int 10 0, Value.int 0 0, Value.int 0 0, Value.int 0 0, Value.int 0 0, Value.ref 45, Value.bool false, Value.int 181 0, Value.ref 46, Value.none, Value.none, Value.none, Value.none, Value.int 230 0, Value.int 10 0, Value.str (Str.ofString "/claim/cut.py") 231]) #[]
noncomputable def hd.o_85 : Params → Obj := fun _ => Obj.mk (Value.type "frame") none Data.plain #[some (Value.ref 47), some (Value.ref 3), some (Value.ref 44), none, some (Value.str (Str.ofString "markupmill.errors") 194), none, some (Value.ref 0)]
noncomputable def hd.o_86 : Params → Obj := fun _ => Obj.mk (Value.type "tuple") none (Data.seq #[] 0) #[]
noncomputable def hd.o_87 : Params → Obj := fun P => Obj.mk (Value.type "dict") none (Data.dict #[DictEntry.mk (PyData.keyHash P (Str.ofString "__module__")) (Value.str (Str.ofString "__module__") 232) (Value.str (Str.ofString "markupmill.errors") 194), DictEntry.mk (PyData.keyHash P (Str.ofString "__firstlineno__")) (Value.str (Str.ofString "__firstlineno__") 236) (Value.int 10 235), DictEntry.mk (PyData.keyHash P (Str.ofString "__static_attributes__")) (Value.str (Str.ofString "__static_attributes__") 237) (Value.ref 49), DictEntry.mk (PyData.keyHash P (Str.ofString "__doc__")) (Value.str (Str.ofString "__doc__") 238) Value.none] 2) #[]
noncomputable def hd.o_88 : Params → Obj := fun _ => Obj.mk (Value.type "type") none (Data.cls (ClassData.mk (Str.ofString "PathFault") [Value.ref 38] [Value.ref 51, Value.ref 38, Value.type "Exception", Value.type "BaseException", Value.type "object"] 50 (Str.ofString "PathFault") true [] [] false none false)) #[some (Value.ref 42), none, some (Value.str (Str.ofString "PathFault") 225), some (Value.str (Str.ofString "PathFault") 233), some (Value.builtin "Exception.__new__"), some (Value.bool true)]
noncomputable def hd.o_89 : Params → Obj := fun _ => Obj.mk (Value.type "super") none (Data.fields #[Value.ref 51, Value.ref 51, Value.ref 51]) #[]
noncomputable def hd.o_90 : Params → Obj := fun _ => Obj.mk (Value.type "builtin_function_or_method") none (Data.fields #[Value.builtin "object.__init_subclass__", Value.ref 51]) #[]
noncomputable def hd.o_91 : Params → Obj := fun _ => Obj.mk (Value.type "tuple") none (Data.seq #[] 0) #[]
noncomputable def hd.o_92 : Params → Obj := fun _ => Obj.mk (Value.type "builtin_function_or_method") none (Data.fields #[Value.builtin "type.__prepare__", Value.type "type"]) #[]
noncomputable def hd.o_93 : Params → Obj := fun P => Obj.mk (Value.type "dict") none (Data.dict #[DictEntry.mk (PyData.keyHash P (Str.ofString "__module__")) (Value.str (Str.ofString "__module__") 250) (Value.str (Str.ofString "markupmill.xpath_nodes") 241), DictEntry.mk (PyData.keyHash P (Str.ofString "__qualname__")) (Value.str (Str.ofString "__qualname__") 252) (Value.str (Str.ofString "Literal") 251), DictEntry.mk (PyData.keyHash P (Str.ofString "__firstlineno__")) (Value.str (Str.ofString "__firstlineno__") 254) (Value.int 13 253), DictEntry.mk (PyData.keyHash P (Str.ofString "__init__")) (Value.str (Str.ofString "__init__") 262) (Value.ref 67), DictEntry.mk (PyData.keyHash P (Str.ofString "row")) (Value.str (Str.ofString "row") 269) (Value.ref 74), DictEntry.mk (PyData.keyHash P (Str.ofString "__static_attributes__")) (Value.str (Str.ofString "__static_attributes__") 271) (Value.ref 75)] 6) #[]
noncomputable def hd.o_94 : Params → Obj := fun _ => Obj.mk (Value.type "tuple") none (Data.seq #[] 0) #[]
noncomputable def hd.o_95 : Params → Obj := fun _ => Obj.mk Value.none none (Data.fields #[Value.int 15 0, Value.int 4 0, Value.ref 66, Value.int 18 0, Value.int 4 0, Value.ref 73]) #[]
noncomputable def hd.o_96 : Params → Obj := fun _ => Obj.mk (Value.type "code") none (Data.fields #[Value.str (Str.ofString "Literal") 245, Value.str (Str.ofString "Literal") 246, Value.str (Str.ofString "/claim/cut.py") 247, Value.int 13 0, Value.int 0 0, Value.int 0 0, Value.int 0 0, Value.int 0 0, Value.ref 57, Value.bool false, Value.int 181 0, Value.ref 58, Value.none, Value.none, Value.none, Value.none, Value.int 248 0, Value.int 13 0, Value.str (Str.ofString "/claim/cut.py") 249]) #[]
noncomputable def hd.o_97 : Params → Obj := fun _ => Obj.mk (Value.type "frame") none Data.plain #[some (Value.ref 59), some (Value.ref 3), some (Value.ref 56), none, some (Value.str (Str.ofString "markupmill.xpath_nodes") 241), none, some (Value.ref 0)]
noncomputable def hd.o_98 : Params → Obj := fun _ => Obj.mk (Value.type "tuple") none (Data.seq #[] 0) #[]
noncomputable def hd.o_99 : Params → Obj := fun _ => Obj.mk Value.none none (Data.fields #[]) #[]
noncomputable def hd.o_100 : Params → Obj := fun _ => Obj.mk (Value.type "tuple") none (Data.seq #[Value.str (Str.ofString "self") 258, Value.str (Str.ofString "value") 259] 0) #[]
noncomputable def hd.o_101 : Params → Obj := fun _ => Obj.mk (Value.type "tuple") none (Data.seq #[] 0) #[]
noncomputable def hd.o_102 : Params → Obj := fun _ => pick3 (x := fnParts pw.main.body [5, 0]) rfl fun p b s => Obj.mk Value.none none (Data.func (FuncData.mk (Str.ofString "__init__") (Str.ofString "Literal.__init__") p (FuncBody.stmts b) s 0 [] Value.none Value.none Value.none Value.none none Value.none Value.none 0)) #[]
noncomputable def hd.o_103 : Params → Obj := fun _ => Obj.mk (Value.type "code") none (Data.fields #[Value.str (Str.ofString "__init__") 255, Value.str (Str.ofString "Literal.__init__") 256, Value.str (Str.ofString "/claim/cut.py") 257, Value.int 15 0, Value.int 2 0, Value.int 0 0, Value.int 0 0, Value.int 3 0, Value.ref 61, Value.bool true, Value.int 181 0, Value.ref 62, Value.none, Value.ref 63, Value.ref 64, Value.ref 65, Value.int 260 0, Value.int 15 0, Value.str (Str.ofString "/claim/cut.py") 261]) #[]
noncomputable def hd.o_104 : Params → Obj := fun _ => pick3 (x := fnParts pw.main.body [5, 0]) rfl fun p b s => Obj.mk (Value.type "function") none (Data.func (FuncData.mk (Str.ofString "__init__") (Str.ofString "Literal.__init__") p (FuncBody.stmts b) s 3 [] Value.none Value.none Value.none (Value.str (Str.ofString "markupmill.xpath_nodes") 241) none (Value.ref 66) Value.none 0)) #[]
noncomputable def hd.o_105 : Params → Obj := fun _ => Obj.mk (Value.type "tuple") none (Data.seq #[] 0) #[]
noncomputable def hd.o_106 : Params → Obj := fun _ => Obj.mk Value.none none (Data.fields #[]) #[]
noncomputable def hd.o_107 : Params → Obj := fun _ => Obj.mk (Value.type "tuple") none (Data.seq #[Value.str (Str.ofString "self") 266] 0) #[]
noncomputable def hd.o_108 : Params → Obj := fun _ => Obj.mk (Value.type "tuple") none (Data.seq #[] 0) #[]
noncomputable def hd.o_109 : Params → Obj := fun _ => pick3 (x := fnParts pw.main.body [5, 1]) rfl fun p b s => Obj.mk Value.none none (Data.func (FuncData.mk (Str.ofString "row") (Str.ofString "Literal.row") p (FuncBody.stmts b) s 0 [] Value.none Value.none Value.none Value.none none Value.none Value.none 0)) #[]
noncomputable def hd.o_110 : Params → Obj := fun _ => Obj.mk (Value.type "code") none (Data.fields #[Value.str (Str.ofString "row") 263, Value.str (Str.ofString "Literal.row") 264, Value.str (Str.ofString "/claim/cut.py") 265, Value.int 18 0, Value.int 1 0, Value.int 0 0, Value.int 0 0, Value.int 3 0, Value.ref 68, Value.bool true, Value.int 181 0, Value.ref 69, Value.none, Value.ref 70, Value.ref 71, Value.ref 72, Value.int 267 0, Value.int 18 0, Value.str (Str.ofString "/claim/cut.py") 268]) #[]
noncomputable def hd.o_111 : Params → Obj := fun _ => pick3 (x := fnParts pw.main.body [5, 1]) rfl fun p b s => Obj.mk (Value.type "function") none (Data.func (FuncData.mk (Str.ofString "row") (Str.ofString "Literal.row") p (FuncBody.stmts b) s 3 [] Value.none Value.none Value.none (Value.str (Str.ofString "markupmill.xpath_nodes") 241) none (Value.ref 73) Value.none 0)) #[]
noncomputable def hd.o_112 : Params → Obj := fun _ => Obj.mk (Value.type "tuple") none (Data.seq #[Value.str (Str.ofString "value") 270] 0) #[]
noncomputable def hd.o_113 : Params → Obj := fun P => Obj.mk (Value.type "dict") none (Data.dict #[DictEntry.mk (PyData.keyHash P (Str.ofString "__module__")) (Value.str (Str.ofString "__module__") 250) (Value.str (Str.ofString "markupmill.xpath_nodes") 241), DictEntry.mk (PyData.keyHash P (Str.ofString "__firstlineno__")) (Value.str (Str.ofString "__firstlineno__") 254) (Value.int 13 253), DictEntry.mk (PyData.keyHash P (Str.ofString "__init__")) (Value.str (Str.ofString "__init__") 262) (Value.ref 67), DictEntry.mk (PyData.keyHash P (Str.ofString "row")) (Value.str (Str.ofString "row") 269) (Value.ref 74), DictEntry.mk (PyData.keyHash P (Str.ofString "__static_attributes__")) (Value.str (Str.ofString "__static_attributes__") 271) (Value.ref 75), DictEntry.mk (PyData.keyHash P (Str.ofString "__dict__")) (Value.str (Str.ofString "__dict__") 273) (Value.ref 78), DictEntry.mk (PyData.keyHash P (Str.ofString "__weakref__")) (Value.str (Str.ofString "__weakref__") 275) (Value.ref 79), DictEntry.mk (PyData.keyHash P (Str.ofString "__doc__")) (Value.str (Str.ofString "__doc__") 276) Value.none] 4) #[]
noncomputable def hd.o_114 : Params → Obj := fun _ => Obj.mk (Value.type "type") none (Data.cls (ClassData.mk (Str.ofString "Literal") [Value.type "object"] [Value.ref 77, Value.type "object"] 76 (Str.ofString "Literal") true [] [] false none false)) #[none, none, some (Value.str (Str.ofString "Literal") 243), some (Value.str (Str.ofString "Literal") 251), some (Value.builtin "object.__new__"), some (Value.bool true)]
noncomputable def hd.o_115 : Params → Obj := fun _ => Obj.mk (Value.type "getset_descriptor") none (Data.fields #[Value.str (Str.ofString "__dict__") 272, Value.ref 77, Value.builtin "function.__dict__", Value.builtin "function.__dict__#set"]) #[]
noncomputable def hd.o_116 : Params → Obj := fun _ => Obj.mk (Value.type "getset_descriptor") none (Data.fields #[Value.str (Str.ofString "__weakref__") 274, Value.ref 77, Value.builtin "ExceptionGroup.__weakref__", Value.none]) #[]
noncomputable def hd.o_117 : Params → Obj := fun _ => Obj.mk (Value.type "super") none (Data.fields #[Value.ref 77, Value.ref 77, Value.ref 77]) #[]
noncomputable def hd.o_118 : Params → Obj := fun _ => Obj.mk (Value.type "builtin_function_or_method") none (Data.fields #[Value.builtin "object.__init_subclass__", Value.ref 77]) #[]
noncomputable def hd.o_119 : Params → Obj := fun _ => Obj.mk (Value.type "tuple") none (Data.seq #[] 0) #[]
noncomputable def hd.o_120 : Params → Obj := fun _ => Obj.mk (Value.type "builtin_function_or_method") none (Data.fields #[Value.builtin "type.__prepare__", Value.type "type"]) #[]
noncomputable def hd.o_121 : Params → Obj := fun P => Obj.mk (Value.type "dict") none (Data.dict #[DictEntry.mk (PyData.keyHash P (Str.ofString "__module__")) (Value.str (Str.ofString "__module__") 286) (Value.str (Str.ofString "markupmill.xpath_nodes") 241), DictEntry.mk (PyData.keyHash P (Str.ofString "__qualname__")) (Value.str (Str.ofString "__qualname__") 288) (Value.str (Str.ofString "NumberNode") 287), DictEntry.mk (PyData.keyHash P (Str.ofString "__firstlineno__")) (Value.str (Str.ofString "__firstlineno__") 290) (Value.int 20 289), DictEntry.mk (PyData.keyHash P (Str.ofString "__init__")) (Value.str (Str.ofString "__init__") 298) (Value.ref 95), DictEntry.mk (PyData.keyHash P (Str.ofString "row")) (Value.str (Str.ofString "row") 305) (Value.ref 102), DictEntry.mk (PyData.keyHash P (Str.ofString "__static_attributes__")) (Value.str (Str.ofString "__static_attributes__") 307) (Value.ref 103)] 6) #[]
noncomputable def hd.o_122 : Params → Obj := fun _ => Obj.mk (Value.type "tuple") none (Data.seq #[] 0) #[]
noncomputable def hd.o_123 : Params → Obj := fun _ => Obj.mk Value.none none (Data.fields #[Value.int 22 0, Value.int 4 0, Value.ref 94, Value.int 25 0, Value.int 4 0, Value.ref 101]) #[]
noncomputable def hd.o_124 : Params → Obj := fun _ => Obj.mk (Value.type "code") none (Data.fields #[Value.str (Str.ofString "NumberNode") 281, Value.str (Str.ofString "NumberNode") 282, Value.str (Str.ofString "/claim/cut.py") 283, Value.int 20 0, Value.int 0 0, Value.int 0 0, Value.int 0 0, Value.int 0 0, Value.ref 85, Value.bool false, Value.int 181 0, Value.ref 86, Value.none, Value.none, Value.none, Value.none, Value.int 284 0, Value.int 20 0, Value.str (Str.ofString "/claim/cut.py") 285]) #[]
noncomputable def hd.o_125 : Params → Obj := fun _ => Obj.mk (Value.type "frame") none Data.plain #[some (Value.ref 87), some (Value.ref 3), some (Value.ref 84), none, some (Value.str (Str.ofString "markupmill.xpath_nodes") 241), none, some (Value.ref 0)]
noncomputable def hd.o_126 : Params → Obj := fun _ => Obj.mk (Value.type "tuple") none (Data.seq #[] 0) #[]
noncomputable def hd.o_127 : Params → Obj := fun _ => Obj.mk Value.none none (Data.fields #[]) #[]
noncomputable def hd.o_128 : Params → Obj := fun _ => Obj.mk (Value.type "tuple") none (Data.seq #[Value.str (Str.ofString "self") 294, Value.str (Str.ofString "value") 295] 0) #[]
noncomputable def hd.o_129 : Params → Obj := fun _ => Obj.mk (Value.type "tuple") none (Data.seq #[] 0) #[]
noncomputable def hd.o_130 : Params → Obj := fun _ => pick3 (x := fnParts pw.main.body [6, 0]) rfl fun p b s => Obj.mk Value.none none (Data.func (FuncData.mk (Str.ofString "__init__") (Str.ofString "NumberNode.__init__") p (FuncBody.stmts b) s 0 [] Value.none Value.none Value.none Value.none none Value.none Value.none 0)) #[]
noncomputable def hd.o_131 : Params → Obj := fun _ => Obj.mk (Value.type "code") none (Data.fields #[Value.str (Str.ofString "__init__") 291, Value.str (Str.ofString "NumberNode.__init__") 292, Value.str (Str.ofString "/claim/cut.py") 293, Value.int 22 0, Value.int 2 0, Value.int 0 0, Value.int 0 0, Value.int 3 0, Value.ref 89, Value.bool true, Value.int 181 0, Value.ref 90, Value.none, Value.ref 91, Value.ref 92, Value.ref 93, Value.int 296 0, Value.int 22 0, Value.str (Str.ofString "/claim/cut.py") 297]) #[]
noncomputable def hd.o_132 : Params → Obj := fun _ => pick3 (x := fnParts pw.main.body [6, 0]) rfl fun p b s => Obj.mk (Value.type "function") none (Data.func (FuncData.mk (Str.ofString "__init__") (Str.ofString "NumberNode.__init__") p (FuncBody.stmts b) s 3 [] Value.none Value.none Value.none (Value.str (Str.ofString "markupmill.xpath_nodes") 241) none (Value.ref 94) Value.none 0)) #[]
noncomputable def hd.o_133 : Params → Obj := fun _ => Obj.mk (Value.type "tuple") none (Data.seq #[] 0) #[]
noncomputable def hd.o_134 : Params → Obj := fun _ => Obj.mk Value.none none (Data.fields #[]) #[]
noncomputable def hd.o_135 : Params → Obj := fun _ => Obj.mk (Value.type "tuple") none (Data.seq #[Value.str (Str.ofString "self") 302] 0) #[]
noncomputable def hd.o_136 : Params → Obj := fun _ => Obj.mk (Value.type "tuple") none (Data.seq #[] 0) #[]
noncomputable def hd.o_137 : Params → Obj := fun _ => pick3 (x := fnParts pw.main.body [6, 1]) rfl fun p b s => Obj.mk Value.none none (Data.func (FuncData.mk (Str.ofString "row") (Str.ofString "NumberNode.row") p (FuncBody.stmts b) s 0 [] Value.none Value.none Value.none Value.none none Value.none Value.none 0)) #[]
noncomputable def hd.o_138 : Params → Obj := fun _ => Obj.mk (Value.type "code") none (Data.fields #[Value.str (Str.ofString "row") 299, Value.str (Str.ofString "NumberNode.row") 300, Value.str (Str.ofString "/claim/cut.py") 301, Value.int 25 0, Value.int 1 0, Value.int 0 0, Value.int 0 0, Value.int 3 0, Value.ref 96, Value.bool true, Value.int 181 0, Value.ref 97, Value.none, Value.ref 98, Value.ref 99, Value.ref 100, Value.int 303 0, Value.int 25 0, Value.str (Str.ofString "/claim/cut.py") 304]) #[]
noncomputable def hd.o_139 : Params → Obj := fun _ => pick3 (x := fnParts pw.main.body [6, 1]) rfl fun p b s => Obj.mk (Value.type "function") none (Data.func (FuncData.mk (Str.ofString "row") (Str.ofString "NumberNode.row") p (FuncBody.stmts b) s 3 [] Value.none Value.none Value.none (Value.str (Str.ofString "markupmill.xpath_nodes") 241) none (Value.ref 101) Value.none 0)) #[]
noncomputable def hd.o_140 : Params → Obj := fun _ => Obj.mk (Value.type "tuple") none (Data.seq #[Value.str (Str.ofString "value") 306] 0) #[]
noncomputable def hd.o_141 : Params → Obj := fun P => Obj.mk (Value.type "dict") none (Data.dict #[DictEntry.mk (PyData.keyHash P (Str.ofString "__module__")) (Value.str (Str.ofString "__module__") 286) (Value.str (Str.ofString "markupmill.xpath_nodes") 241), DictEntry.mk (PyData.keyHash P (Str.ofString "__firstlineno__")) (Value.str (Str.ofString "__firstlineno__") 290) (Value.int 20 289), DictEntry.mk (PyData.keyHash P (Str.ofString "__init__")) (Value.str (Str.ofString "__init__") 298) (Value.ref 95), DictEntry.mk (PyData.keyHash P (Str.ofString "row")) (Value.str (Str.ofString "row") 305) (Value.ref 102), DictEntry.mk (PyData.keyHash P (Str.ofString "__static_attributes__")) (Value.str (Str.ofString "__static_attributes__") 307) (Value.ref 103), DictEntry.mk (PyData.keyHash P (Str.ofString "__dict__")) (Value.str (Str.ofString "__dict__") 309) (Value.ref 106), DictEntry.mk (PyData.keyHash P (Str.ofString "__weakref__")) (Value.str (Str.ofString "__weakref__") 311) (Value.ref 107), DictEntry.mk (PyData.keyHash P (Str.ofString "__doc__")) (Value.str (Str.ofString "__doc__") 312) Value.none] 4) #[]
noncomputable def hd.o_142 : Params → Obj := fun _ => Obj.mk (Value.type "type") none (Data.cls (ClassData.mk (Str.ofString "NumberNode") [Value.type "object"] [Value.ref 105, Value.type "object"] 104 (Str.ofString "NumberNode") true [] [] false none false)) #[none, none, some (Value.str (Str.ofString "NumberNode") 279), some (Value.str (Str.ofString "NumberNode") 287), some (Value.builtin "object.__new__"), some (Value.bool true)]
noncomputable def hd.o_143 : Params → Obj := fun _ => Obj.mk (Value.type "getset_descriptor") none (Data.fields #[Value.str (Str.ofString "__dict__") 308, Value.ref 105, Value.builtin "function.__dict__", Value.builtin "function.__dict__#set"]) #[]
noncomputable def hd.o_144 : Params → Obj := fun _ => Obj.mk (Value.type "getset_descriptor") none (Data.fields #[Value.str (Str.ofString "__weakref__") 310, Value.ref 105, Value.builtin "ExceptionGroup.__weakref__", Value.none]) #[]
noncomputable def hd.o_145 : Params → Obj := fun _ => Obj.mk (Value.type "super") none (Data.fields #[Value.ref 105, Value.ref 105, Value.ref 105]) #[]
noncomputable def hd.o_146 : Params → Obj := fun _ => Obj.mk (Value.type "builtin_function_or_method") none (Data.fields #[Value.builtin "object.__init_subclass__", Value.ref 105]) #[]
noncomputable def hd.tree_146 : Params → BT := fun P => BT.node (boot_o_0 P) (BT.node (boot_o_1 P) (BT.node (hd.o_50 P) (BT.node (boot_o_7 P) (BT.node (hd.o_52 P) (BT.node (hd.o_68 P) (BT.node (hd.o_100 P) BT.nil BT.nil) (BT.node (hd.o_132 P) BT.nil BT.nil)) (BT.node (hd.o_84 P) (BT.node (hd.o_116 P) BT.nil BT.nil) BT.nil)) (BT.node (hd.o_60 P) (BT.node (hd.o_76 P) (BT.node (hd.o_108 P) BT.nil BT.nil) (BT.node (hd.o_140 P) BT.nil BT.nil)) (BT.node (hd.o_92 P) (BT.node (hd.o_124 P) BT.nil BT.nil) BT.nil))) (BT.node (hd.o_43 P) (BT.node (hd.o_56 P) (BT.node (hd.o_72 P) (BT.node (hd.o_104 P) BT.nil BT.nil) (BT.node (hd.o_136 P) BT.nil BT.nil)) (BT.node (hd.o_88 P) (BT.node (hd.o_120 P) BT.nil BT.nil) BT.nil)) (BT.node (hd.o_64 P) (BT.node (hd.o_80 P) (BT.node (hd.o_112 P) BT.nil BT.nil) (BT.node (hd.o_144 P) BT.nil BT.nil)) (BT.node (hd.o_96 P) (BT.node (hd.o_128 P) BT.nil BT.nil) BT.nil)))) (BT.node (boot_o_5 P) (BT.node (boot_o_9 P) (BT.node (hd.o_54 P) (BT.node (hd.o_70 P) (BT.node (hd.o_102 P) BT.nil BT.nil) (BT.node (hd.o_134 P) BT.nil BT.nil)) (BT.node (hd.o_86 P) (BT.node (hd.o_118 P) BT.nil BT.nil) BT.nil)) (BT.node (hd.o_62 P) (BT.node (hd.o_78 P) (BT.node (hd.o_110 P) BT.nil BT.nil) (BT.node (hd.o_142 P) BT.nil BT.nil)) (BT.node (hd.o_94 P) (BT.node (hd.o_126 P) BT.nil BT.nil) BT.nil))) (BT.node (hd.o_45 P) (BT.node (hd.o_58 P) (BT.node (hd.o_74 P) (BT.node (hd.o_106 P) BT.nil BT.nil) (BT.node (hd.o_138 P) BT.nil BT.nil)) (BT.node (hd.o_90 P) (BT.node (hd.o_122 P) BT.nil BT.nil) BT.nil)) (BT.node (hd.o_66 P) (BT.node (hd.o_82 P) (BT.node (hd.o_114 P) BT.nil BT.nil) (BT.node (hd.o_146 P) BT.nil BT.nil)) (BT.node (hd.o_98 P) (BT.node (hd.o_130 P) BT.nil BT.nil) BT.nil))))) (BT.node (hd.o_49 P) (BT.node (boot_o_4 P) (BT.node (boot_o_8 P) (BT.node (hd.o_53 P) (BT.node (hd.o_69 P) (BT.node (hd.o_101 P) BT.nil BT.nil) (BT.node (hd.o_133 P) BT.nil BT.nil)) (BT.node (hd.o_85 P) (BT.node (hd.o_117 P) BT.nil BT.nil) BT.nil)) (BT.node (hd.o_61 P) (BT.node (hd.o_77 P) (BT.node (hd.o_109 P) BT.nil BT.nil) (BT.node (hd.o_141 P) BT.nil BT.nil)) (BT.node (hd.o_93 P) (BT.node (hd.o_125 P) BT.nil BT.nil) BT.nil))) (BT.node (hd.o_51 P) (BT.node (hd.o_57 P) (BT.node (hd.o_73 P) (BT.node (hd.o_105 P) BT.nil BT.nil) (BT.node (hd.o_137 P) BT.nil BT.nil)) (BT.node (hd.o_89 P) (BT.node (hd.o_121 P) BT.nil BT.nil) BT.nil)) (BT.node (hd.o_65 P) (BT.node (hd.o_81 P) (BT.node (hd.o_113 P) BT.nil BT.nil) (BT.node (hd.o_145 P) BT.nil BT.nil)) (BT.node (hd.o_97 P) (BT.node (hd.o_129 P) BT.nil BT.nil) BT.nil)))) (BT.node (boot_o_6 P) (BT.node (boot_o_10 P) (BT.node (hd.o_55 P) (BT.node (hd.o_71 P) (BT.node (hd.o_103 P) BT.nil BT.nil) (BT.node (hd.o_135 P) BT.nil BT.nil)) (BT.node (hd.o_87 P) (BT.node (hd.o_119 P) BT.nil BT.nil) BT.nil)) (BT.node (hd.o_63 P) (BT.node (hd.o_79 P) (BT.node (hd.o_111 P) BT.nil BT.nil) (BT.node (hd.o_143 P) BT.nil BT.nil)) (BT.node (hd.o_95 P) (BT.node (hd.o_127 P) BT.nil BT.nil) BT.nil))) (BT.node (hd.o_46 P) (BT.node (hd.o_59 P) (BT.node (hd.o_75 P) (BT.node (hd.o_107 P) BT.nil BT.nil) (BT.node (hd.o_139 P) BT.nil BT.nil)) (BT.node (hd.o_91 P) (BT.node (hd.o_123 P) BT.nil BT.nil) BT.nil)) (BT.node (hd.o_67 P) (BT.node (hd.o_83 P) (BT.node (hd.o_115 P) BT.nil BT.nil) BT.nil) (BT.node (hd.o_99 P) (BT.node (hd.o_131 P) BT.nil BT.nil) BT.nil)))))
noncomputable def hd.o_147 : Params → Obj := fun P => Obj.mk (Value.type "dict") none (Data.dict #[DictEntry.mk (PyData.keyHash P (Str.ofString "__name__")) (Value.str (Str.ofString "__name__") 165) (Value.str (Str.ofString "markupmill.xpath_nodes") 241), DictEntry.mk (PyData.keyHash P (Str.ofString "__doc__")) (Value.str (Str.ofString "__doc__") 166) Value.none, DictEntry.mk (PyData.keyHash P (Str.ofString "__package__")) (Value.str (Str.ofString "__package__") 167) Value.none, DictEntry.mk (PyData.keyHash P (Str.ofString "__loader__")) (Value.str (Str.ofString "__loader__") 168) (Value.builtin "__main__.__loader__#opaque"), DictEntry.mk (PyData.keyHash P (Str.ofString "__spec__")) (Value.str (Str.ofString "__spec__") 169) Value.none, DictEntry.mk (PyData.keyHash P (Str.ofString "__annotations__")) (Value.str (Str.ofString "__annotations__") 170) (Value.ref 6), DictEntry.mk (PyData.keyHash P (Str.ofString "__builtins__")) (Value.str (Str.ofString "__builtins__") 171) (Value.ref 4), DictEntry.mk (PyData.keyHash P (Str.ofString "__file__")) (Value.str (Str.ofString "__file__") 173) (Value.str (Str.ofString "/claim/cut.py") 172), DictEntry.mk (PyData.keyHash P (Str.ofString "__cached__")) (Value.str (Str.ofString "__cached__") 174) Value.none, DictEntry.mk (PyData.keyHash P (Str.ofString "_wall")) (Value.str (Str.ofString "_wall") 193) (Value.ref 21), DictEntry.mk (PyData.keyHash P (Str.ofString "MarkupError")) (Value.str (Str.ofString "MarkupError") 224) (Value.ref 38), DictEntry.mk (PyData.keyHash P (Str.ofString "PathFault")) (Value.str (Str.ofString "PathFault") 240) (Value.ref 51), DictEntry.mk (PyData.keyHash P (Str.ofString "Literal")) (Value.str (Str.ofString "Literal") 278) (Value.ref 77), DictEntry.mk (PyData.keyHash P (Str.ofString "NumberNode")) (Value.str (Str.ofString "NumberNode") 314) (Value.ref 105), DictEntry.mk (PyData.keyHash P (Str.ofString "VariableNode")) (Value.str (Str.ofString "VariableNode") 350) (Value.ref 133), DictEntry.mk (PyData.keyHash P (Str.ofString "Call")) (Value.str (Str.ofString "Call") 388) (Value.ref 161), DictEntry.mk (PyData.keyHash P (Str.ofString "Binary")) (Value.str (Str.ofString "Binary") 428) (Value.ref 189), DictEntry.mk (PyData.keyHash P (Str.ofString "Negated")) (Value.str (Str.ofString "Negated") 464) (Value.ref 217)] 18) #[]
noncomputable def hd.o_148 : Params → Obj := fun _ => Obj.mk Value.none none (Data.fields #[Value.int 1 0, Value.int 0 0, Value.ref 20, Value.int 5 0, Value.int 0 0, Value.ref 27, Value.int 10 0, Value.int 0 0, Value.ref 47, Value.int 13 0, Value.int 0 0, Value.ref 59, Value.int 20 0, Value.int 0 0, Value.ref 87, Value.int 27 0, Value.int 0 0, Value.ref 115, Value.int 34 0, Value.int 0 0, Value.ref 143, Value.int 42 0, Value.int 0 0, Value.ref 171, Value.int 51 0, Value.int 0 0, Value.ref 199]) #[]
noncomputable def hd.o_149 : Params → Obj := fun _ => Obj.mk (Value.type "tuple") none (Data.seq #[] 0) #[]
noncomputable def hd.o_150 : Params → Obj := fun _ => Obj.mk (Value.type "builtin_function_or_method") none (Data.fields #[Value.builtin "type.__prepare__", Value.type "type"]) #[]
noncomputable def hd.o_151 : Params → Obj := fun P => Obj.mk (Value.type "dict") none (Data.dict #[DictEntry.mk (PyData.keyHash P (Str.ofString "__module__")) (Value.str (Str.ofString "__module__") 322) (Value.str (Str.ofString "markupmill.xpath_nodes") 241), DictEntry.mk (PyData.keyHash P (Str.ofString "__qualname__")) (Value.str (Str.ofString "__qualname__") 324) (Value.str (Str.ofString "VariableNode") 323), DictEntry.mk (PyData.keyHash P (Str.ofString "__firstlineno__")) (Value.str (Str.ofString "__firstlineno__") 326) (Value.int 27 325), DictEntry.mk (PyData.keyHash P (Str.ofString "__init__")) (Value.str (Str.ofString "__init__") 334) (Value.ref 123), DictEntry.mk (PyData.keyHash P (Str.ofString "row")) (Value.str (Str.ofString "row") 341) (Value.ref 130), DictEntry.mk (PyData.keyHash P (Str.ofString "__static_attributes__")) (Value.str (Str.ofString "__static_attributes__") 343) (Value.ref 131)] 6) #[]
noncomputable def hd.o_152 : Params → Obj := fun _ => Obj.mk (Value.type "tuple") none (Data.seq #[] 0) #[]
noncomputable def hd.o_153 : Params → Obj := fun _ => Obj.mk Value.none none (Data.fields #[Value.int 29 0, Value.int 4 0, Value.ref 122, Value.int 32 0, Value.int 4 0, Value.ref 129]) #[]
noncomputable def hd.o_154 : Params → Obj := fun _ => Obj.mk (Value.type "code") none (Data.fields #[Value.str (Str.ofString "VariableNode") 317, Value.str (Str.ofString "VariableNode") 318, Value.str (Str.ofString "/claim/cut.py") 319, Value.int 27 0, Value.int 0 0, Value.int 0 0, Value.int 0 0, Value.int 0 0, Value.ref 113, Value.bool false, Value.int 181 0, Value.ref 114, Value.none, Value.none, Value.none, Value.none, Value.int 320 0, Value.int 27 0, Value.str (Str.ofString "/claim/cut.py") 321]) #[]
noncomputable def hd.o_155 : Params → Obj := fun _ => Obj.mk (Value.type "frame") none Data.plain #[some (Value.ref 115), some (Value.ref 3), some (Value.ref 112), none, some (Value.str (Str.ofString "markupmill.xpath_nodes") 241), none, some (Value.ref 0)]
noncomputable def hd.o_156 : Params → Obj := fun _ => Obj.mk (Value.type "tuple") none (Data.seq #[] 0) #[]
noncomputable def hd.o_157 : Params → Obj := fun _ => Obj.mk Value.none none (Data.fields #[]) #[]
noncomputable def hd.o_158 : Params → Obj := fun _ => Obj.mk (Value.type "tuple") none (Data.seq #[Value.str (Str.ofString "self") 330, Value.str (Str.ofString "name") 331] 0) #[]
noncomputable def hd.o_159 : Params → Obj := fun _ => Obj.mk (Value.type "tuple") none (Data.seq #[] 0) #[]
noncomputable def hd.o_160 : Params → Obj := fun _ => pick3 (x := fnParts pw.main.body [7, 0]) rfl fun p b s => Obj.mk Value.none none (Data.func (FuncData.mk (Str.ofString "__init__") (Str.ofString "VariableNode.__init__") p (FuncBody.stmts b) s 0 [] Value.none Value.none Value.none Value.none none Value.none Value.none 0)) #[]
noncomputable def hd.o_161 : Params → Obj := fun _ => Obj.mk (Value.type "code") none (Data.fields #[Value.str (Str.ofString "__init__") 327, Value.str (Str.ofString "VariableNode.__init__") 328, Value.str (Str.ofString "/claim/cut.py") 329, Value.int 29 0, Value.int 2 0, Value.int 0 0, Value.int 0 0, Value.int 3 0, Value.ref 117, Value.bool true, Value.int 181 0, Value.ref 118, Value.none, Value.ref 119, Value.ref 120, Value.ref 121, Value.int 332 0, Value.int 29 0, Value.str (Str.ofString "/claim/cut.py") 333]) #[]
noncomputable def hd.o_162 : Params → Obj := fun _ => pick3 (x := fnParts pw.main.body [7, 0]) rfl fun p b s => Obj.mk (Value.type "function") none (Data.func (FuncData.mk (Str.ofString "__init__") (Str.ofString "VariableNode.__init__") p (FuncBody.stmts b) s 3 [] Value.none Value.none Value.none (Value.str (Str.ofString "markupmill.xpath_nodes") 241) none (Value.ref 122) Value.none 0)) #[]
noncomputable def hd.o_163 : Params → Obj := fun _ => Obj.mk (Value.type "tuple") none (Data.seq #[] 0) #[]
noncomputable def hd.o_164 : Params → Obj := fun _ => Obj.mk Value.none none (Data.fields #[]) #[]
noncomputable def hd.o_165 : Params → Obj := fun _ => Obj.mk (Value.type "tuple") none (Data.seq #[Value.str (Str.ofString "self") 338] 0) #[]
noncomputable def hd.o_166 : Params → Obj := fun _ => Obj.mk (Value.type "tuple") none (Data.seq #[] 0) #[]
noncomputable def hd.o_167 : Params → Obj := fun _ => pick3 (x := fnParts pw.main.body [7, 1]) rfl fun p b s => Obj.mk Value.none none (Data.func (FuncData.mk (Str.ofString "row") (Str.ofString "VariableNode.row") p (FuncBody.stmts b) s 0 [] Value.none Value.none Value.none Value.none none Value.none Value.none 0)) #[]
noncomputable def hd.o_168 : Params → Obj := fun _ => Obj.mk (Value.type "code") none (Data.fields #[Value.str (Str.ofString "row") 335, Value.str (Str.ofString "VariableNode.row") 336, Value.str (Str.ofString "/claim/cut.py") 337, Value.int 32 0, Value.int 1 0, Value.int 0 0, Value.int 0 0, Value.int 3 0, Value.ref 124, Value.bool true, Value.int 181 0, Value.ref 125, Value.none, Value.ref 126, Value.ref 127, Value.ref 128, Value.int 339 0, Value.int 32 0, Value.str (Str.ofString "/claim/cut.py") 340]) #[]
noncomputable def hd.o_169 : Params → Obj := fun _ => pick3 (x := fnParts pw.main.body [7, 1]) rfl fun p b s => Obj.mk (Value.type "function") none (Data.func (FuncData.mk (Str.ofString "row") (Str.ofString "VariableNode.row") p (FuncBody.stmts b) s 3 [] Value.none Value.none Value.none (Value.str (Str.ofString "markupmill.xpath_nodes") 241) none (Value.ref 129) Value.none 0)) #[]
noncomputable def hd.o_170 : Params → Obj := fun _ => Obj.mk (Value.type "tuple") none (Data.seq #[Value.str (Str.ofString "name") 342] 0) #[]
noncomputable def hd.o_171 : Params → Obj := fun P => Obj.mk (Value.type "dict") none (Data.dict #[DictEntry.mk (PyData.keyHash P (Str.ofString "__module__")) (Value.str (Str.ofString "__module__") 322) (Value.str (Str.ofString "markupmill.xpath_nodes") 241), DictEntry.mk (PyData.keyHash P (Str.ofString "__firstlineno__")) (Value.str (Str.ofString "__firstlineno__") 326) (Value.int 27 325), DictEntry.mk (PyData.keyHash P (Str.ofString "__init__")) (Value.str (Str.ofString "__init__") 334) (Value.ref 123), DictEntry.mk (PyData.keyHash P (Str.ofString "row")) (Value.str (Str.ofString "row") 341) (Value.ref 130), DictEntry.mk (PyData.keyHash P (Str.ofString "__static_attributes__")) (Value.str (Str.ofString "__static_attributes__") 343) (Value.ref 131), DictEntry.mk (PyData.keyHash P (Str.ofString "__dict__")) (Value.str (Str.ofString "__dict__") 345) (Value.ref 134), DictEntry.mk (PyData.keyHash P (Str.ofString "__weakref__")) (Value.str (Str.ofString "__weakref__") 347) (Value.ref 135), DictEntry.mk (PyData.keyHash P (Str.ofString "__doc__")) (Value.str (Str.ofString "__doc__") 348) Value.none] 4) #[]
noncomputable def hd.o_172 : Params → Obj := fun _ => Obj.mk (Value.type "type") none (Data.cls (ClassData.mk (Str.ofString "VariableNode") [Value.type "object"] [Value.ref 133, Value.type "object"] 132 (Str.ofString "VariableNode") true [] [] false none false)) #[none, none, some (Value.str (Str.ofString "VariableNode") 315), some (Value.str (Str.ofString "VariableNode") 323), some (Value.builtin "object.__new__"), some (Value.bool true)]
noncomputable def hd.o_173 : Params → Obj := fun _ => Obj.mk (Value.type "getset_descriptor") none (Data.fields #[Value.str (Str.ofString "__dict__") 344, Value.ref 133, Value.builtin "function.__dict__", Value.builtin "function.__dict__#set"]) #[]
noncomputable def hd.o_174 : Params → Obj := fun _ => Obj.mk (Value.type "getset_descriptor") none (Data.fields #[Value.str (Str.ofString "__weakref__") 346, Value.ref 133, Value.builtin "ExceptionGroup.__weakref__", Value.none]) #[]
noncomputable def hd.o_175 : Params → Obj := fun _ => Obj.mk (Value.type "super") none (Data.fields #[Value.ref 133, Value.ref 133, Value.ref 133]) #[]
noncomputable def hd.o_176 : Params → Obj := fun _ => Obj.mk (Value.type "builtin_function_or_method") none (Data.fields #[Value.builtin "object.__init_subclass__", Value.ref 133]) #[]
noncomputable def hd.o_177 : Params → Obj := fun _ => Obj.mk (Value.type "tuple") none (Data.seq #[] 0) #[]
noncomputable def hd.o_178 : Params → Obj := fun _ => Obj.mk (Value.type "builtin_function_or_method") none (Data.fields #[Value.builtin "type.__prepare__", Value.type "type"]) #[]
noncomputable def hd.o_179 : Params → Obj := fun P => Obj.mk (Value.type "dict") none (Data.dict #[DictEntry.mk (PyData.keyHash P (Str.ofString "__module__")) (Value.str (Str.ofString "__module__") 358) (Value.str (Str.ofString "markupmill.xpath_nodes") 241), DictEntry.mk (PyData.keyHash P (Str.ofString "__qualname__")) (Value.str (Str.ofString "__qualname__") 360) (Value.str (Str.ofString "Call") 359), DictEntry.mk (PyData.keyHash P (Str.ofString "__firstlineno__")) (Value.str (Str.ofString "__firstlineno__") 362) (Value.int 34 361), DictEntry.mk (PyData.keyHash P (Str.ofString "__init__")) (Value.str (Str.ofString "__init__") 371) (Value.ref 151), DictEntry.mk (PyData.keyHash P (Str.ofString "row")) (Value.str (Str.ofString "row") 378) (Value.ref 158), DictEntry.mk (PyData.keyHash P (Str.ofString "__static_attributes__")) (Value.str (Str.ofString "__static_attributes__") 381) (Value.ref 159)] 6) #[]
noncomputable def hd.o_180 : Params → Obj := fun _ => Obj.mk (Value.type "tuple") none (Data.seq #[] 0) #[]
noncomputable def hd.o_181 : Params → Obj := fun _ => Obj.mk Value.none none (Data.fields #[Value.int 36 0, Value.int 4 0, Value.ref 150, Value.int 40 0, Value.int 4 0, Value.ref 157]) #[]
noncomputable def hd.o_182 : Params → Obj := fun _ => Obj.mk (Value.type "code") none (Data.fields #[Value.str (Str.ofString "Call") 353, Value.str (Str.ofString "Call") 354, Value.str (Str.ofString "/claim/cut.py") 355, Value.int 34 0, Value.int 0 0, Value.int 0 0, Value.int 0 0, Value.int 0 0, Value.ref 141, Value.bool false, Value.int 181 0, Value.ref 142, Value.none, Value.none, Value.none, Value.none, Value.int 356 0, Value.int 34 0, Value.str (Str.ofString "/claim/cut.py") 357]) #[]
noncomputable def hd.o_183 : Params → Obj := fun _ => Obj.mk (Value.type "frame") none Data.plain #[some (Value.ref 143), some (Value.ref 3), some (Value.ref 140), none, some (Value.str (Str.ofString "markupmill.xpath_nodes") 241), none, some (Value.ref 0)]
noncomputable def hd.o_184 : Params → Obj := fun _ => Obj.mk (Value.type "tuple") none (Data.seq #[] 0) #[]
noncomputable def hd.o_185 : Params → Obj := fun _ => Obj.mk Value.none none (Data.fields #[]) #[]
noncomputable def hd.o_186 : Params → Obj := fun _ => Obj.mk (Value.type "tuple") none (Data.seq #[Value.str (Str.ofString "self") 366, Value.str (Str.ofString "name") 367, Value.str (Str.ofString "arguments") 368] 0) #[]
noncomputable def hd.o_187 : Params → Obj := fun _ => Obj.mk (Value.type "tuple") none (Data.seq #[] 0) #[]
noncomputable def hd.o_188 : Params → Obj := fun _ => pick3 (x := fnParts pw.main.body [8, 0]) rfl fun p b s => Obj.mk Value.none none (Data.func (FuncData.mk (Str.ofString "__init__") (Str.ofString "Call.__init__") p (FuncBody.stmts b) s 0 [] Value.none Value.none Value.none Value.none none Value.none Value.none 0)) #[]
noncomputable def hd.o_189 : Params → Obj := fun _ => Obj.mk (Value.type "code") none (Data.fields #[Value.str (Str.ofString "__init__") 363, Value.str (Str.ofString "Call.__init__") 364, Value.str (Str.ofString "/claim/cut.py") 365, Value.int 36 0, Value.int 3 0, Value.int 0 0, Value.int 0 0, Value.int 3 0, Value.ref 145, Value.bool true, Value.int 181 0, Value.ref 146, Value.none, Value.ref 147, Value.ref 148, Value.ref 149, Value.int 369 0, Value.int 36 0, Value.str (Str.ofString "/claim/cut.py") 370]) #[]
noncomputable def hd.o_190 : Params → Obj := fun _ => pick3 (x := fnParts pw.main.body [8, 0]) rfl fun p b s => Obj.mk (Value.type "function") none (Data.func (FuncData.mk (Str.ofString "__init__") (Str.ofString "Call.__init__") p (FuncBody.stmts b) s 3 [] Value.none Value.none Value.none (Value.str (Str.ofString "markupmill.xpath_nodes") 241) none (Value.ref 150) Value.none 0)) #[]
noncomputable def hd.o_191 : Params → Obj := fun _ => Obj.mk (Value.type "tuple") none (Data.seq #[] 0) #[]
noncomputable def hd.o_192 : Params → Obj := fun _ => Obj.mk Value.none none (Data.fields #[]) #[]
noncomputable def hd.o_193 : Params → Obj := fun _ => Obj.mk (Value.type "tuple") none (Data.seq #[Value.str (Str.ofString "self") 375] 0) #[]
noncomputable def hd.o_194 : Params → Obj := fun _ => Obj.mk (Value.type "tuple") none (Data.seq #[] 0) #[]
noncomputable def hd.o_195 : Params → Obj := fun _ => pick3 (x := fnParts pw.main.body [8, 1]) rfl fun p b s => Obj.mk Value.none none (Data.func (FuncData.mk (Str.ofString "row") (Str.ofString "Call.row") p (FuncBody.stmts b) s 0 [] Value.none Value.none Value.none Value.none none Value.none Value.none 0)) #[]
noncomputable def hd.o_196 : Params → Obj := fun _ => Obj.mk (Value.type "code") none (Data.fields #[Value.str (Str.ofString "row") 372, Value.str (Str.ofString "Call.row") 373, Value.str (Str.ofString "/claim/cut.py") 374, Value.int 40 0, Value.int 1 0, Value.int 0 0, Value.int 0 0, Value.int 3 0, Value.ref 152, Value.bool true, Value.int 181 0, Value.ref 153, Value.none, Value.ref 154, Value.ref 155, Value.ref 156, Value.int 376 0, Value.int 40 0, Value.str (Str.ofString "/claim/cut.py") 377]) #[]
noncomputable def hd.o_197 : Params → Obj := fun _ => pick3 (x := fnParts pw.main.body [8, 1]) rfl fun p b s => Obj.mk (Value.type "function") none (Data.func (FuncData.mk (Str.ofString "row") (Str.ofString "Call.row") p (FuncBody.stmts b) s 3 [] Value.none Value.none Value.none (Value.str (Str.ofString "markupmill.xpath_nodes") 241) none (Value.ref 157) Value.none 0)) #[]
noncomputable def hd.o_198 : Params → Obj := fun _ => Obj.mk (Value.type "tuple") none (Data.seq #[Value.str (Str.ofString "arguments") 379, Value.str (Str.ofString "name") 380] 0) #[]
noncomputable def hd.o_199 : Params → Obj := fun P => Obj.mk (Value.type "dict") none (Data.dict #[DictEntry.mk (PyData.keyHash P (Str.ofString "__module__")) (Value.str (Str.ofString "__module__") 358) (Value.str (Str.ofString "markupmill.xpath_nodes") 241), DictEntry.mk (PyData.keyHash P (Str.ofString "__firstlineno__")) (Value.str (Str.ofString "__firstlineno__") 362) (Value.int 34 361), DictEntry.mk (PyData.keyHash P (Str.ofString "__init__")) (Value.str (Str.ofString "__init__") 371) (Value.ref 151), DictEntry.mk (PyData.keyHash P (Str.ofString "row")) (Value.str (Str.ofString "row") 378) (Value.ref 158), DictEntry.mk (PyData.keyHash P (Str.ofString "__static_attributes__")) (Value.str (Str.ofString "__static_attributes__") 381) (Value.ref 159), DictEntry.mk (PyData.keyHash P (Str.ofString "__dict__")) (Value.str (Str.ofString "__dict__") 383) (Value.ref 162), DictEntry.mk (PyData.keyHash P (Str.ofString "__weakref__")) (Value.str (Str.ofString "__weakref__") 385) (Value.ref 163), DictEntry.mk (PyData.keyHash P (Str.ofString "__doc__")) (Value.str (Str.ofString "__doc__") 386) Value.none] 4) #[]
noncomputable def hd.o_200 : Params → Obj := fun _ => Obj.mk (Value.type "type") none (Data.cls (ClassData.mk (Str.ofString "Call") [Value.type "object"] [Value.ref 161, Value.type "object"] 160 (Str.ofString "Call") true [] [] false none false)) #[none, none, some (Value.str (Str.ofString "Call") 351), some (Value.str (Str.ofString "Call") 359), some (Value.builtin "object.__new__"), some (Value.bool true)]
noncomputable def hd.o_201 : Params → Obj := fun _ => Obj.mk (Value.type "getset_descriptor") none (Data.fields #[Value.str (Str.ofString "__dict__") 382, Value.ref 161, Value.builtin "function.__dict__", Value.builtin "function.__dict__#set"]) #[]
noncomputable def hd.o_202 : Params → Obj := fun _ => Obj.mk (Value.type "getset_descriptor") none (Data.fields #[Value.str (Str.ofString "__weakref__") 384, Value.ref 161, Value.builtin "ExceptionGroup.__weakref__", Value.none]) #[]
noncomputable def hd.o_203 : Params → Obj := fun _ => Obj.mk (Value.type "super") none (Data.fields #[Value.ref 161, Value.ref 161, Value.ref 161]) #[]
noncomputable def hd.o_204 : Params → Obj := fun _ => Obj.mk (Value.type "builtin_function_or_method") none (Data.fields #[Value.builtin "object.__init_subclass__", Value.ref 161]) #[]
noncomputable def hd.o_205 : Params → Obj := fun _ => Obj.mk (Value.type "tuple") none (Data.seq #[] 0) #[]
noncomputable def hd.o_206 : Params → Obj := fun _ => Obj.mk (Value.type "builtin_function_or_method") none (Data.fields #[Value.builtin "type.__prepare__", Value.type "type"]) #[]
noncomputable def hd.o_207 : Params → Obj := fun P => Obj.mk (Value.type "dict") none (Data.dict #[DictEntry.mk (PyData.keyHash P (Str.ofString "__module__")) (Value.str (Str.ofString "__module__") 396) (Value.str (Str.ofString "markupmill.xpath_nodes") 241), DictEntry.mk (PyData.keyHash P (Str.ofString "__qualname__")) (Value.str (Str.ofString "__qualname__") 398) (Value.str (Str.ofString "Binary") 397), DictEntry.mk (PyData.keyHash P (Str.ofString "__firstlineno__")) (Value.str (Str.ofString "__firstlineno__") 400) (Value.int 42 399), DictEntry.mk (PyData.keyHash P (Str.ofString "__init__")) (Value.str (Str.ofString "__init__") 410) (Value.ref 179), DictEntry.mk (PyData.keyHash P (Str.ofString "row")) (Value.str (Str.ofString "row") 417) (Value.ref 186), DictEntry.mk (PyData.keyHash P (Str.ofString "__static_attributes__")) (Value.str (Str.ofString "__static_attributes__") 421) (Value.ref 187)] 6) #[]
noncomputable def hd.o_208 : Params → Obj := fun _ => Obj.mk (Value.type "tuple") none (Data.seq #[] 0) #[]
noncomputable def hd.o_209 : Params → Obj := fun _ => Obj.mk Value.none none (Data.fields #[Value.int 44 0, Value.int 4 0, Value.ref 178, Value.int 49 0, Value.int 4 0, Value.ref 185]) #[]
noncomputable def hd.o_210 : Params → Obj := fun _ => Obj.mk (Value.type "code") none (Data.fields #[Value.str (Str.ofString "Binary") 391, Value.str (Str.ofString "Binary") 392, Value.str (Str.ofString "/claim/cut.py") 393, Value.int 42 0, Value.int 0 0, Value.int 0 0, Value.int 0 0, Value.int 0 0, Value.ref 169, Value.bool false, Value.int 181 0, Value.ref 170, Value.none, Value.none, Value.none, Value.none, Value.int 394 0, Value.int 42 0, Value.str (Str.ofString "/claim/cut.py") 395]) #[]
noncomputable def hd.o_211 : Params → Obj := fun _ => Obj.mk (Value.type "frame") none Data.plain #[some (Value.ref 171), some (Value.ref 3), some (Value.ref 168), none, some (Value.str (Str.ofString "markupmill.xpath_nodes") 241), none, some (Value.ref 0)]
noncomputable def hd.o_212 : Params → Obj := fun _ => Obj.mk (Value.type "tuple") none (Data.seq #[] 0) #[]
noncomputable def hd.o_213 : Params → Obj := fun _ => Obj.mk Value.none none (Data.fields #[]) #[]
noncomputable def hd.o_214 : Params → Obj := fun _ => Obj.mk (Value.type "tuple") none (Data.seq #[Value.str (Str.ofString "self") 404, Value.str (Str.ofString "op") 405, Value.str (Str.ofString "left") 406, Value.str (Str.ofString "right") 407] 0) #[]
noncomputable def hd.o_215 : Params → Obj := fun _ => Obj.mk (Value.type "tuple") none (Data.seq #[] 0) #[]
noncomputable def hd.o_216 : Params → Obj := fun _ => pick3 (x := fnParts pw.main.body [9, 0]) rfl fun p b s => Obj.mk Value.none none (Data.func (FuncData.mk (Str.ofString "__init__") (Str.ofString "Binary.__init__") p (FuncBody.stmts b) s 0 [] Value.none Value.none Value.none Value.none none Value.none Value.none 0)) #[]
noncomputable def hd.o_217 : Params → Obj := fun _ => Obj.mk (Value.type "code") none (Data.fields #[Value.str (Str.ofString "__init__") 401, Value.str (Str.ofString "Binary.__init__") 402, Value.str (Str.ofString "/claim/cut.py") 403, Value.int 44 0, Value.int 4 0, Value.int 0 0, Value.int 0 0, Value.int 3 0, Value.ref 173, Value.bool true, Value.int 181 0, Value.ref 174, Value.none, Value.ref 175, Value.ref 176, Value.ref 177, Value.int 408 0, Value.int 44 0, Value.str (Str.ofString "/claim/cut.py") 409]) #[]
noncomputable def hd.o_218 : Params → Obj := fun _ => pick3 (x := fnParts pw.main.body [9, 0]) rfl fun p b s => Obj.mk (Value.type "function") none (Data.func (FuncData.mk (Str.ofString "__init__") (Str.ofString "Binary.__init__") p (FuncBody.stmts b) s 3 [] Value.none Value.none Value.none (Value.str (Str.ofString "markupmill.xpath_nodes") 241) none (Value.ref 178) Value.none 0)) #[]
noncomputable def hd.o_219 : Params → Obj := fun _ => Obj.mk (Value.type "tuple") none (Data.seq #[] 0) #[]
noncomputable def hd.o_220 : Params → Obj := fun _ => Obj.mk Value.none none (Data.fields #[]) #[]
noncomputable def hd.o_221 : Params → Obj := fun _ => Obj.mk (Value.type "tuple") none (Data.seq #[Value.str (Str.ofString "self") 414] 0) #[]
noncomputable def hd.o_222 : Params → Obj := fun _ => Obj.mk (Value.type "tuple") none (Data.seq #[] 0) #[]
noncomputable def hd.o_223 : Params → Obj := fun _ => pick3 (x := fnParts pw.main.body [9, 1]) rfl fun p b s => Obj.mk Value.none none (Data.func (FuncData.mk (Str.ofString "row") (Str.ofString "Binary.row") p (FuncBody.stmts b) s 0 [] Value.none Value.none Value.none Value.none none Value.none Value.none 0)) #[]
noncomputable def hd.o_224 : Params → Obj := fun _ => Obj.mk (Value.type "code") none (Data.fields #[Value.str (Str.ofString "row") 411, Value.str (Str.ofString "Binary.row") 412, Value.str (Str.ofString "/claim/cut.py") 413, Value.int 49 0, Value.int 1 0, Value.int 0 0, Value.int 0 0, Value.int 3 0, Value.ref 180, Value.bool true, Value.int 181 0, Value.ref 181, Value.none, Value.ref 182, Value.ref 183, Value.ref 184, Value.int 415 0, Value.int 49 0, Value.str (Str.ofString "/claim/cut.py") 416]) #[]
noncomputable def hd.o_225 : Params → Obj := fun _ => pick3 (x := fnParts pw.main.body [9, 1]) rfl fun p b s => Obj.mk (Value.type "function") none (Data.func (FuncData.mk (Str.ofString "row") (Str.ofString "Binary.row") p (FuncBody.stmts b) s 3 [] Value.none Value.none Value.none (Value.str (Str.ofString "markupmill.xpath_nodes") 241) none (Value.ref 185) Value.none 0)) #[]
noncomputable def hd.o_226 : Params → Obj := fun _ => Obj.mk (Value.type "tuple") none (Data.seq #[Value.str (Str.ofString "left") 418, Value.str (Str.ofString "op") 419, Value.str (Str.ofString "right") 420] 0) #[]
noncomputable def hd.o_227 : Params → Obj := fun P => Obj.mk (Value.type "dict") none (Data.dict #[DictEntry.mk (PyData.keyHash P (Str.ofString "__module__")) (Value.str (Str.ofString "__module__") 396) (Value.str (Str.ofString "markupmill.xpath_nodes") 241), DictEntry.mk (PyData.keyHash P (Str.ofString "__firstlineno__")) (Value.str (Str.ofString "__firstlineno__") 400) (Value.int 42 399), DictEntry.mk (PyData.keyHash P (Str.ofString "__init__")) (Value.str (Str.ofString "__init__") 410) (Value.ref 179), DictEntry.mk (PyData.keyHash P (Str.ofString "row")) (Value.str (Str.ofString "row") 417) (Value.ref 186), DictEntry.mk (PyData.keyHash P (Str.ofString "__static_attributes__")) (Value.str (Str.ofString "__static_attributes__") 421) (Value.ref 187), DictEntry.mk (PyData.keyHash P (Str.ofString "__dict__")) (Value.str (Str.ofString "__dict__") 423) (Value.ref 190), DictEntry.mk (PyData.keyHash P (Str.ofString "__weakref__")) (Value.str (Str.ofString "__weakref__") 425) (Value.ref 191), DictEntry.mk (PyData.keyHash P (Str.ofString "__doc__")) (Value.str (Str.ofString "__doc__") 426) Value.none] 4) #[]
noncomputable def hd.o_228 : Params → Obj := fun _ => Obj.mk (Value.type "type") none (Data.cls (ClassData.mk (Str.ofString "Binary") [Value.type "object"] [Value.ref 189, Value.type "object"] 188 (Str.ofString "Binary") true [] [] false none false)) #[none, none, some (Value.str (Str.ofString "Binary") 389), some (Value.str (Str.ofString "Binary") 397), some (Value.builtin "object.__new__"), some (Value.bool true)]
noncomputable def hd.o_229 : Params → Obj := fun _ => Obj.mk (Value.type "getset_descriptor") none (Data.fields #[Value.str (Str.ofString "__dict__") 422, Value.ref 189, Value.builtin "function.__dict__", Value.builtin "function.__dict__#set"]) #[]
noncomputable def hd.o_230 : Params → Obj := fun _ => Obj.mk (Value.type "getset_descriptor") none (Data.fields #[Value.str (Str.ofString "__weakref__") 424, Value.ref 189, Value.builtin "ExceptionGroup.__weakref__", Value.none]) #[]
noncomputable def hd.o_231 : Params → Obj := fun _ => Obj.mk (Value.type "super") none (Data.fields #[Value.ref 189, Value.ref 189, Value.ref 189]) #[]
noncomputable def hd.o_232 : Params → Obj := fun _ => Obj.mk (Value.type "builtin_function_or_method") none (Data.fields #[Value.builtin "object.__init_subclass__", Value.ref 189]) #[]
noncomputable def hd.o_233 : Params → Obj := fun _ => Obj.mk (Value.type "tuple") none (Data.seq #[] 0) #[]
noncomputable def hd.o_234 : Params → Obj := fun _ => Obj.mk (Value.type "builtin_function_or_method") none (Data.fields #[Value.builtin "type.__prepare__", Value.type "type"]) #[]
noncomputable def hd.o_235 : Params → Obj := fun P => Obj.mk (Value.type "dict") none (Data.dict #[DictEntry.mk (PyData.keyHash P (Str.ofString "__module__")) (Value.str (Str.ofString "__module__") 436) (Value.str (Str.ofString "markupmill.xpath_nodes") 241), DictEntry.mk (PyData.keyHash P (Str.ofString "__qualname__")) (Value.str (Str.ofString "__qualname__") 438) (Value.str (Str.ofString "Negated") 437), DictEntry.mk (PyData.keyHash P (Str.ofString "__firstlineno__")) (Value.str (Str.ofString "__firstlineno__") 440) (Value.int 51 439), DictEntry.mk (PyData.keyHash P (Str.ofString "__init__")) (Value.str (Str.ofString "__init__") 448) (Value.ref 207), DictEntry.mk (PyData.keyHash P (Str.ofString "row")) (Value.str (Str.ofString "row") 455) (Value.ref 214), DictEntry.mk (PyData.keyHash P (Str.ofString "__static_attributes__")) (Value.str (Str.ofString "__static_attributes__") 457) (Value.ref 215)] 6) #[]
noncomputable def hd.o_236 : Params → Obj := fun _ => Obj.mk (Value.type "tuple") none (Data.seq #[] 0) #[]
noncomputable def hd.o_237 : Params → Obj := fun _ => Obj.mk Value.none none (Data.fields #[Value.int 53 0, Value.int 4 0, Value.ref 206, Value.int 56 0, Value.int 4 0, Value.ref 213]) #[]
noncomputable def hd.o_238 : Params → Obj := fun _ => Obj.mk (Value.type "code") none (Data.fields #[Value.str (Str.ofString "Negated") 431, Value.str (Str.ofString "Negated") 432, Value.str (Str.ofString "/claim/cut.py") 433, Value.int 51 0, Value.int 0 0, Value.int 0 0, Value.int 0 0, Value.int 0 0, Value.ref 197, Value.bool false, Value.int 181 0, Value.ref 198, Value.none, Value.none, Value.none, Value.none, Value.int 434 0, Value.int 51 0, Value.str (Str.ofString "/claim/cut.py") 435]) #[]
noncomputable def hd.o_239 : Params → Obj := fun _ => Obj.mk (Value.type "frame") none Data.plain #[some (Value.ref 199), some (Value.ref 3), some (Value.ref 196), none, some (Value.str (Str.ofString "markupmill.xpath_nodes") 241), none, some (Value.ref 0)]
noncomputable def hd.o_240 : Params → Obj := fun _ => Obj.mk (Value.type "tuple") none (Data.seq #[] 0) #[]
noncomputable def hd.o_241 : Params → Obj := fun _ => Obj.mk Value.none none (Data.fields #[]) #[]
noncomputable def hd.o_242 : Params → Obj := fun _ => Obj.mk (Value.type "tuple") none (Data.seq #[Value.str (Str.ofString "self") 444, Value.str (Str.ofString "value") 445] 0) #[]
noncomputable def hd.o_243 : Params → Obj := fun _ => Obj.mk (Value.type "tuple") none (Data.seq #[] 0) #[]
noncomputable def hd.o_244 : Params → Obj := fun _ => pick3 (x := fnParts pw.main.body [10, 0]) rfl fun p b s => Obj.mk Value.none none (Data.func (FuncData.mk (Str.ofString "__init__") (Str.ofString "Negated.__init__") p (FuncBody.stmts b) s 0 [] Value.none Value.none Value.none Value.none none Value.none Value.none 0)) #[]
noncomputable def hd.o_245 : Params → Obj := fun _ => Obj.mk (Value.type "code") none (Data.fields #[Value.str (Str.ofString "__init__") 441, Value.str (Str.ofString "Negated.__init__") 442, Value.str (Str.ofString "/claim/cut.py") 443, Value.int 53 0, Value.int 2 0, Value.int 0 0, Value.int 0 0, Value.int 3 0, Value.ref 201, Value.bool true, Value.int 181 0, Value.ref 202, Value.none, Value.ref 203, Value.ref 204, Value.ref 205, Value.int 446 0, Value.int 53 0, Value.str (Str.ofString "/claim/cut.py") 447]) #[]
noncomputable def hd.o_246 : Params → Obj := fun _ => pick3 (x := fnParts pw.main.body [10, 0]) rfl fun p b s => Obj.mk (Value.type "function") none (Data.func (FuncData.mk (Str.ofString "__init__") (Str.ofString "Negated.__init__") p (FuncBody.stmts b) s 3 [] Value.none Value.none Value.none (Value.str (Str.ofString "markupmill.xpath_nodes") 241) none (Value.ref 206) Value.none 0)) #[]
noncomputable def hd.o_247 : Params → Obj := fun _ => Obj.mk (Value.type "tuple") none (Data.seq #[] 0) #[]
noncomputable def hd.o_248 : Params → Obj := fun _ => Obj.mk Value.none none (Data.fields #[]) #[]
noncomputable def hd.o_249 : Params → Obj := fun _ => Obj.mk (Value.type "tuple") none (Data.seq #[Value.str (Str.ofString "self") 452] 0) #[]
noncomputable def hd.o_250 : Params → Obj := fun _ => Obj.mk (Value.type "tuple") none (Data.seq #[] 0) #[]
noncomputable def hd.o_251 : Params → Obj := fun _ => pick3 (x := fnParts pw.main.body [10, 1]) rfl fun p b s => Obj.mk Value.none none (Data.func (FuncData.mk (Str.ofString "row") (Str.ofString "Negated.row") p (FuncBody.stmts b) s 0 [] Value.none Value.none Value.none Value.none none Value.none Value.none 0)) #[]
noncomputable def hd.o_252 : Params → Obj := fun _ => Obj.mk (Value.type "code") none (Data.fields #[Value.str (Str.ofString "row") 449, Value.str (Str.ofString "Negated.row") 450, Value.str (Str.ofString "/claim/cut.py") 451, Value.int 56 0, Value.int 1 0, Value.int 0 0, Value.int 0 0, Value.int 3 0, Value.ref 208, Value.bool true, Value.int 181 0, Value.ref 209, Value.none, Value.ref 210, Value.ref 211, Value.ref 212, Value.int 453 0, Value.int 56 0, Value.str (Str.ofString "/claim/cut.py") 454]) #[]
noncomputable def hd.o_253 : Params → Obj := fun _ => pick3 (x := fnParts pw.main.body [10, 1]) rfl fun p b s => Obj.mk (Value.type "function") none (Data.func (FuncData.mk (Str.ofString "row") (Str.ofString "Negated.row") p (FuncBody.stmts b) s 3 [] Value.none Value.none Value.none (Value.str (Str.ofString "markupmill.xpath_nodes") 241) none (Value.ref 213) Value.none 0)) #[]
noncomputable def hd.o_254 : Params → Obj := fun _ => Obj.mk (Value.type "tuple") none (Data.seq #[Value.str (Str.ofString "value") 456] 0) #[]
noncomputable def hd.o_255 : Params → Obj := fun P => Obj.mk (Value.type "dict") none (Data.dict #[DictEntry.mk (PyData.keyHash P (Str.ofString "__module__")) (Value.str (Str.ofString "__module__") 436) (Value.str (Str.ofString "markupmill.xpath_nodes") 241), DictEntry.mk (PyData.keyHash P (Str.ofString "__firstlineno__")) (Value.str (Str.ofString "__firstlineno__") 440) (Value.int 51 439), DictEntry.mk (PyData.keyHash P (Str.ofString "__init__")) (Value.str (Str.ofString "__init__") 448) (Value.ref 207), DictEntry.mk (PyData.keyHash P (Str.ofString "row")) (Value.str (Str.ofString "row") 455) (Value.ref 214), DictEntry.mk (PyData.keyHash P (Str.ofString "__static_attributes__")) (Value.str (Str.ofString "__static_attributes__") 457) (Value.ref 215), DictEntry.mk (PyData.keyHash P (Str.ofString "__dict__")) (Value.str (Str.ofString "__dict__") 459) (Value.ref 218), DictEntry.mk (PyData.keyHash P (Str.ofString "__weakref__")) (Value.str (Str.ofString "__weakref__") 461) (Value.ref 219), DictEntry.mk (PyData.keyHash P (Str.ofString "__doc__")) (Value.str (Str.ofString "__doc__") 462) Value.none] 4) #[]
noncomputable def hd.o_256 : Params → Obj := fun _ => Obj.mk (Value.type "type") none (Data.cls (ClassData.mk (Str.ofString "Negated") [Value.type "object"] [Value.ref 217, Value.type "object"] 216 (Str.ofString "Negated") true [] [] false none false)) #[none, none, some (Value.str (Str.ofString "Negated") 429), some (Value.str (Str.ofString "Negated") 437), some (Value.builtin "object.__new__"), some (Value.bool true)]
noncomputable def hd.o_257 : Params → Obj := fun _ => Obj.mk (Value.type "getset_descriptor") none (Data.fields #[Value.str (Str.ofString "__dict__") 458, Value.ref 217, Value.builtin "function.__dict__", Value.builtin "function.__dict__#set"]) #[]
noncomputable def hd.o_258 : Params → Obj := fun _ => Obj.mk (Value.type "getset_descriptor") none (Data.fields #[Value.str (Str.ofString "__weakref__") 460, Value.ref 217, Value.builtin "ExceptionGroup.__weakref__", Value.none]) #[]
noncomputable def hd.o_259 : Params → Obj := fun _ => Obj.mk (Value.type "super") none (Data.fields #[Value.ref 217, Value.ref 217, Value.ref 217]) #[]
noncomputable def hd.o_260 : Params → Obj := fun _ => Obj.mk (Value.type "builtin_function_or_method") none (Data.fields #[Value.builtin "object.__init_subclass__", Value.ref 217]) #[]
noncomputable def hd.tree_260 : Params → BT := fun P => BT.node (boot_o_0 P) (BT.node (boot_o_1 P) (BT.node (hd.o_147 P) (BT.node (boot_o_7 P) (BT.node (hd.o_52 P) (BT.node (hd.o_68 P) (BT.node (hd.o_100 P) (BT.node (hd.o_166 P) BT.nil BT.nil) (BT.node (hd.o_230 P) BT.nil BT.nil)) (BT.node (hd.o_132 P) (BT.node (hd.o_198 P) BT.nil BT.nil) BT.nil)) (BT.node (hd.o_84 P) (BT.node (hd.o_116 P) (BT.node (hd.o_182 P) BT.nil BT.nil) (BT.node (hd.o_246 P) BT.nil BT.nil)) (BT.node (hd.o_150 P) (BT.node (hd.o_214 P) BT.nil BT.nil) BT.nil))) (BT.node (hd.o_60 P) (BT.node (hd.o_76 P) (BT.node (hd.o_108 P) (BT.node (hd.o_174 P) BT.nil BT.nil) (BT.node (hd.o_238 P) BT.nil BT.nil)) (BT.node (hd.o_140 P) (BT.node (hd.o_206 P) BT.nil BT.nil) BT.nil)) (BT.node (hd.o_92 P) (BT.node (hd.o_124 P) (BT.node (hd.o_190 P) BT.nil BT.nil) (BT.node (hd.o_254 P) BT.nil BT.nil)) (BT.node (hd.o_158 P) (BT.node (hd.o_222 P) BT.nil BT.nil) BT.nil)))) (BT.node (hd.o_43 P) (BT.node (hd.o_56 P) (BT.node (hd.o_72 P) (BT.node (hd.o_104 P) (BT.node (hd.o_170 P) BT.nil BT.nil) (BT.node (hd.o_234 P) BT.nil BT.nil)) (BT.node (hd.o_136 P) (BT.node (hd.o_202 P) BT.nil BT.nil) BT.nil)) (BT.node (hd.o_88 P) (BT.node (hd.o_120 P) (BT.node (hd.o_186 P) BT.nil BT.nil) (BT.node (hd.o_250 P) BT.nil BT.nil)) (BT.node (hd.o_154 P) (BT.node (hd.o_218 P) BT.nil BT.nil) BT.nil))) (BT.node (hd.o_64 P) (BT.node (hd.o_80 P) (BT.node (hd.o_112 P) (BT.node (hd.o_178 P) BT.nil BT.nil) (BT.node (hd.o_242 P) BT.nil BT.nil)) (BT.node (hd.o_144 P) (BT.node (hd.o_210 P) BT.nil BT.nil) BT.nil)) (BT.node (hd.o_96 P) (BT.node (hd.o_128 P) (BT.node (hd.o_194 P) BT.nil BT.nil) (BT.node (hd.o_258 P) BT.nil BT.nil)) (BT.node (hd.o_162 P) (BT.node (hd.o_226 P) BT.nil BT.nil) BT.nil))))) (BT.node (boot_o_5 P) (BT.node (boot_o_9 P) (BT.node (hd.o_54 P) (BT.node (hd.o_70 P) (BT.node (hd.o_102 P) (BT.node (hd.o_168 P) BT.nil BT.nil) (BT.node (hd.o_232 P) BT.nil BT.nil)) (BT.node (hd.o_134 P) (BT.node (hd.o_200 P) BT.nil BT.nil) BT.nil)) (BT.node (hd.o_86 P) (BT.node (hd.o_118 P) (BT.node (hd.o_184 P) BT.nil BT.nil) (BT.node (hd.o_248 P) BT.nil BT.nil)) (BT.node (hd.o_152 P) (BT.node (hd.o_216 P) BT.nil BT.nil) BT.nil))) (BT.node (hd.o_62 P) (BT.node (hd.o_78 P) (BT.node (hd.o_110 P) (BT.node (hd.o_176 P) BT.nil BT.nil) (BT.node (hd.o_240 P) BT.nil BT.nil)) (BT.node (hd.o_142 P) (BT.node (hd.o_208 P) BT.nil BT.nil) BT.nil)) (BT.node (hd.o_94 P) (BT.node (hd.o_126 P) (BT.node (hd.o_192 P) BT.nil BT.nil) (BT.node (hd.o_256 P) BT.nil BT.nil)) (BT.node (hd.o_160 P) (BT.node (hd.o_224 P) BT.nil BT.nil) BT.nil)))) (BT.node (hd.o_45 P) (BT.node (hd.o_58 P) (BT.node (hd.o_74 P) (BT.node (hd.o_106 P) (BT.node (hd.o_172 P) BT.nil BT.nil) (BT.node (hd.o_236 P) BT.nil BT.nil)) (BT.node (hd.o_138 P) (BT.node (hd.o_204 P) BT.nil BT.nil) BT.nil)) (BT.node (hd.o_90 P) (BT.node (hd.o_122 P) (BT.node (hd.o_188 P) BT.nil BT.nil) (BT.node (hd.o_252 P) BT.nil BT.nil)) (BT.node (hd.o_156 P) (BT.node (hd.o_220 P) BT.nil BT.nil) BT.nil))) (BT.node (hd.o_66 P) (BT.node (hd.o_82 P) (BT.node (hd.o_114 P) (BT.node (hd.o_180 P) BT.nil BT.nil) (BT.node (hd.o_244 P) BT.nil BT.nil)) (BT.node (hd.o_146 P) (BT.node (hd.o_212 P) BT.nil BT.nil) BT.nil)) (BT.node (hd.o_98 P) (BT.node (hd.o_130 P) (BT.node (hd.o_196 P) BT.nil BT.nil) (BT.node (hd.o_260 P) BT.nil BT.nil)) (BT.node (hd.o_164 P) (BT.node (hd.o_228 P) BT.nil BT.nil) BT.nil)))))) (BT.node (hd.o_49 P) (BT.node (boot_o_4 P) (BT.node (boot_o_8 P) (BT.node (hd.o_53 P) (BT.node (hd.o_69 P) (BT.node (hd.o_101 P) (BT.node (hd.o_167 P) BT.nil BT.nil) (BT.node (hd.o_231 P) BT.nil BT.nil)) (BT.node (hd.o_133 P) (BT.node (hd.o_199 P) BT.nil BT.nil) BT.nil)) (BT.node (hd.o_85 P) (BT.node (hd.o_117 P) (BT.node (hd.o_183 P) BT.nil BT.nil) (BT.node (hd.o_247 P) BT.nil BT.nil)) (BT.node (hd.o_151 P) (BT.node (hd.o_215 P) BT.nil BT.nil) BT.nil))) (BT.node (hd.o_61 P) (BT.node (hd.o_77 P) (BT.node (hd.o_109 P) (BT.node (hd.o_175 P) BT.nil BT.nil) (BT.node (hd.o_239 P) BT.nil BT.nil)) (BT.node (hd.o_141 P) (BT.node (hd.o_207 P) BT.nil BT.nil) BT.nil)) (BT.node (hd.o_93 P) (BT.node (hd.o_125 P) (BT.node (hd.o_191 P) BT.nil BT.nil) (BT.node (hd.o_255 P) BT.nil BT.nil)) (BT.node (hd.o_159 P) (BT.node (hd.o_223 P) BT.nil BT.nil) BT.nil)))) (BT.node (hd.o_148 P) (BT.node (hd.o_57 P) (BT.node (hd.o_73 P) (BT.node (hd.o_105 P) (BT.node (hd.o_171 P) BT.nil BT.nil) (BT.node (hd.o_235 P) BT.nil BT.nil)) (BT.node (hd.o_137 P) (BT.node (hd.o_203 P) BT.nil BT.nil) BT.nil)) (BT.node (hd.o_89 P) (BT.node (hd.o_121 P) (BT.node (hd.o_187 P) BT.nil BT.nil) (BT.node (hd.o_251 P) BT.nil BT.nil)) (BT.node (hd.o_155 P) (BT.node (hd.o_219 P) BT.nil BT.nil) BT.nil))) (BT.node (hd.o_65 P) (BT.node (hd.o_81 P) (BT.node (hd.o_113 P) (BT.node (hd.o_179 P) BT.nil BT.nil) (BT.node (hd.o_243 P) BT.nil BT.nil)) (BT.node (hd.o_145 P) (BT.node (hd.o_211 P) BT.nil BT.nil) BT.nil)) (BT.node (hd.o_97 P) (BT.node (hd.o_129 P) (BT.node (hd.o_195 P) BT.nil BT.nil) (BT.node (hd.o_259 P) BT.nil BT.nil)) (BT.node (hd.o_163 P) (BT.node (hd.o_227 P) BT.nil BT.nil) BT.nil))))) (BT.node (boot_o_6 P) (BT.node (boot_o_10 P) (BT.node (hd.o_55 P) (BT.node (hd.o_71 P) (BT.node (hd.o_103 P) (BT.node (hd.o_169 P) BT.nil BT.nil) (BT.node (hd.o_233 P) BT.nil BT.nil)) (BT.node (hd.o_135 P) (BT.node (hd.o_201 P) BT.nil BT.nil) BT.nil)) (BT.node (hd.o_87 P) (BT.node (hd.o_119 P) (BT.node (hd.o_185 P) BT.nil BT.nil) (BT.node (hd.o_249 P) BT.nil BT.nil)) (BT.node (hd.o_153 P) (BT.node (hd.o_217 P) BT.nil BT.nil) BT.nil))) (BT.node (hd.o_63 P) (BT.node (hd.o_79 P) (BT.node (hd.o_111 P) (BT.node (hd.o_177 P) BT.nil BT.nil) (BT.node (hd.o_241 P) BT.nil BT.nil)) (BT.node (hd.o_143 P) (BT.node (hd.o_209 P) BT.nil BT.nil) BT.nil)) (BT.node (hd.o_95 P) (BT.node (hd.o_127 P) (BT.node (hd.o_193 P) BT.nil BT.nil) (BT.node (hd.o_257 P) BT.nil BT.nil)) (BT.node (hd.o_161 P) (BT.node (hd.o_225 P) BT.nil BT.nil) BT.nil)))) (BT.node (hd.o_46 P) (BT.node (hd.o_59 P) (BT.node (hd.o_75 P) (BT.node (hd.o_107 P) (BT.node (hd.o_173 P) BT.nil BT.nil) (BT.node (hd.o_237 P) BT.nil BT.nil)) (BT.node (hd.o_139 P) (BT.node (hd.o_205 P) BT.nil BT.nil) BT.nil)) (BT.node (hd.o_91 P) (BT.node (hd.o_123 P) (BT.node (hd.o_189 P) BT.nil BT.nil) (BT.node (hd.o_253 P) BT.nil BT.nil)) (BT.node (hd.o_157 P) (BT.node (hd.o_221 P) BT.nil BT.nil) BT.nil))) (BT.node (hd.o_67 P) (BT.node (hd.o_83 P) (BT.node (hd.o_115 P) (BT.node (hd.o_181 P) BT.nil BT.nil) (BT.node (hd.o_245 P) BT.nil BT.nil)) (BT.node (hd.o_149 P) (BT.node (hd.o_213 P) BT.nil BT.nil) BT.nil)) (BT.node (hd.o_99 P) (BT.node (hd.o_131 P) (BT.node (hd.o_197 P) BT.nil BT.nil) BT.nil) (BT.node (hd.o_165 P) (BT.node (hd.o_229 P) BT.nil BT.nil) BT.nil))))))
noncomputable def hd.o_261 : Params → Obj := fun P => Obj.mk (Value.type "dict") none (Data.dict #[DictEntry.mk (PyData.keyHash P (Str.ofString "__name__")) (Value.str (Str.ofString "__name__") 165) (Value.str (Str.ofString "law_xm0658_01") 626), DictEntry.mk (PyData.keyHash P (Str.ofString "__doc__")) (Value.str (Str.ofString "__doc__") 166) Value.none, DictEntry.mk (PyData.keyHash P (Str.ofString "__package__")) (Value.str (Str.ofString "__package__") 167) Value.none, DictEntry.mk (PyData.keyHash P (Str.ofString "__loader__")) (Value.str (Str.ofString "__loader__") 168) (Value.builtin "__main__.__loader__#opaque"), DictEntry.mk (PyData.keyHash P (Str.ofString "__spec__")) (Value.str (Str.ofString "__spec__") 169) Value.none, DictEntry.mk (PyData.keyHash P (Str.ofString "__annotations__")) (Value.str (Str.ofString "__annotations__") 170) (Value.ref 6), DictEntry.mk (PyData.keyHash P (Str.ofString "__builtins__")) (Value.str (Str.ofString "__builtins__") 171) (Value.ref 4), DictEntry.mk (PyData.keyHash P (Str.ofString "__file__")) (Value.str (Str.ofString "__file__") 173) (Value.str (Str.ofString "/claim/cut.py") 172), DictEntry.mk (PyData.keyHash P (Str.ofString "__cached__")) (Value.str (Str.ofString "__cached__") 174) Value.none, DictEntry.mk (PyData.keyHash P (Str.ofString "_wall")) (Value.str (Str.ofString "_wall") 193) (Value.ref 21), DictEntry.mk (PyData.keyHash P (Str.ofString "MarkupError")) (Value.str (Str.ofString "MarkupError") 224) (Value.ref 38), DictEntry.mk (PyData.keyHash P (Str.ofString "PathFault")) (Value.str (Str.ofString "PathFault") 240) (Value.ref 51), DictEntry.mk (PyData.keyHash P (Str.ofString "Literal")) (Value.str (Str.ofString "Literal") 278) (Value.ref 77), DictEntry.mk (PyData.keyHash P (Str.ofString "NumberNode")) (Value.str (Str.ofString "NumberNode") 314) (Value.ref 105), DictEntry.mk (PyData.keyHash P (Str.ofString "VariableNode")) (Value.str (Str.ofString "VariableNode") 350) (Value.ref 133), DictEntry.mk (PyData.keyHash P (Str.ofString "Call")) (Value.str (Str.ofString "Call") 388) (Value.ref 161), DictEntry.mk (PyData.keyHash P (Str.ofString "Binary")) (Value.str (Str.ofString "Binary") 428) (Value.ref 189), DictEntry.mk (PyData.keyHash P (Str.ofString "Negated")) (Value.str (Str.ofString "Negated") 464) (Value.ref 217), DictEntry.mk (PyData.keyHash P (Str.ofString "Filter")) (Value.str (Str.ofString "Filter") 502) (Value.ref 245), DictEntry.mk (PyData.keyHash P (Str.ofString "Path")) (Value.str (Str.ofString "Path") 540) (Value.ref 273), DictEntry.mk (PyData.keyHash P (Str.ofString "Step")) (Value.str (Str.ofString "Step") 580) (Value.ref 301), DictEntry.mk (PyData.keyHash P (Str.ofString "UNARY_LEVEL")) (Value.str (Str.ofString "UNARY_LEVEL") 584) (Value.int 7 583), DictEntry.mk (PyData.keyHash P (Str.ofString "UNION_LEVEL")) (Value.str (Str.ofString "UNION_LEVEL") 586) (Value.int 8 585), DictEntry.mk (PyData.keyHash P (Str.ofString "PATH_LEVEL")) (Value.str (Str.ofString "PATH_LEVEL") 588) (Value.int 9 587), DictEntry.mk (PyData.keyHash P (Str.ofString "FILTER_LEVEL")) (Value.str (Str.ofString "FILTER_LEVEL") 590) (Value.int 10 589), DictEntry.mk (PyData.keyHash P (Str.ofString "PRIMARY_LEVEL")) (Value.str (Str.ofString "PRIMARY_LEVEL") 592) (Value.int 11 591), DictEntry.mk (PyData.keyHash P (Str.ofString "level_of")) (Value.str (Str.ofString "level_of") 600) (Value.ref 312), DictEntry.mk (PyData.keyHash P (Str.ofString "quoted")) (Value.str (Str.ofString "quoted") 607) (Value.ref 319), DictEntry.mk (PyData.keyHash P (Str.ofString "decimal_text")) (Value.str (Str.ofString "decimal_text") 618) (Value.ref 326), DictEntry.mk (PyData.keyHash P (Str.ofString "test_text")) (Value.str (Str.ofString "test_text") 625) (Value.ref 333), DictEntry.mk (PyData.keyHash P (Str.ofString "_law_pool")) (Value.str (Str.ofString "_law_pool") 636) (Value.ref 340), DictEntry.mk (PyData.keyHash P (Str.ofString "_law_take")) (Value.str (Str.ofString "_law_take") 645) (Value.ref 347), DictEntry.mk (PyData.keyHash P (Str.ofString "_law_one")) (Value.str (Str.ofString "_law_one") 653) (Value.ref 354), DictEntry.mk (PyData.keyHash P (Str.ofString "_law_weight")) (Value.str (Str.ofString "_law_weight") 667) (Value.ref 361), DictEntry.mk (PyData.keyHash P (Str.ofString "_law_lowest")) (Value.str (Str.ofString "_law_lowest") 677) (Value.ref 368), DictEntry.mk (PyData.keyHash P (Str.ofString "_law_written")) (Value.str (Str.ofString "_law_written") 684) (Value.ref 375), DictEntry.mk (PyData.keyHash P (Str.ofString "_law_decimal_right")) (Value.str (Str.ofString "_law_decimal_right") 690) (Value.ref 380), DictEntry.mk (PyData.keyHash P (Str.ofString "_law_far_right")) (Value.str (Str.ofString "_law_far_right") 700) (Value.ref 387)] 38) #[]
noncomputable def hd.o_262 : Params → Obj := fun _ => Obj.mk Value.none none (Data.fields #[Value.int 1 0, Value.int 0 0, Value.ref 20, Value.int 5 0, Value.int 0 0, Value.ref 27, Value.int 10 0, Value.int 0 0, Value.ref 47, Value.int 13 0, Value.int 0 0, Value.ref 59, Value.int 20 0, Value.int 0 0, Value.ref 87, Value.int 27 0, Value.int 0 0, Value.ref 115, Value.int 34 0, Value.int 0 0, Value.ref 143, Value.int 42 0, Value.int 0 0, Value.ref 171, Value.int 51 0, Value.int 0 0, Value.ref 199, Value.int 58 0, Value.int 0 0, Value.ref 227, Value.int 66 0, Value.int 0 0, Value.ref 255, Value.int 74 0, Value.int 0 0, Value.ref 283, Value.int 89 0, Value.int 0 0, Value.ref 311, Value.int 98 0, Value.int 0 0, Value.ref 318, Value.int 104 0, Value.int 0 0, Value.ref 325, Value.int 118 0, Value.int 0 0, Value.ref 332, Value.int 129 0, Value.int 0 0, Value.ref 339, Value.int 133 0, Value.int 0 0, Value.ref 346, Value.int 140 0, Value.int 0 0, Value.ref 353, Value.int 142 0, Value.int 0 0, Value.ref 360, Value.int 162 0, Value.int 0 0, Value.ref 367, Value.int 167 0, Value.int 0 0, Value.ref 374, Value.int 172 0, Value.int 0 0, Value.ref 379, Value.int 183 0, Value.int 0 0, Value.ref 386]) #[]
noncomputable def hd.o_263 : Params → Obj := fun _ => Obj.mk (Value.type "tuple") none (Data.seq #[] 0) #[]
noncomputable def hd.o_264 : Params → Obj := fun _ => Obj.mk (Value.type "builtin_function_or_method") none (Data.fields #[Value.builtin "type.__prepare__", Value.type "type"]) #[]
noncomputable def hd.o_265 : Params → Obj := fun P => Obj.mk (Value.type "dict") none (Data.dict #[DictEntry.mk (PyData.keyHash P (Str.ofString "__module__")) (Value.str (Str.ofString "__module__") 472) (Value.str (Str.ofString "markupmill.xpath_nodes") 241), DictEntry.mk (PyData.keyHash P (Str.ofString "__qualname__")) (Value.str (Str.ofString "__qualname__") 474) (Value.str (Str.ofString "Filter") 473), DictEntry.mk (PyData.keyHash P (Str.ofString "__firstlineno__")) (Value.str (Str.ofString "__firstlineno__") 476) (Value.int 58 475), DictEntry.mk (PyData.keyHash P (Str.ofString "__init__")) (Value.str (Str.ofString "__init__") 485) (Value.ref 235), DictEntry.mk (PyData.keyHash P (Str.ofString "row")) (Value.str (Str.ofString "row") 492) (Value.ref 242), DictEntry.mk (PyData.keyHash P (Str.ofString "__static_attributes__")) (Value.str (Str.ofString "__static_attributes__") 495) (Value.ref 243)] 6) #[]
noncomputable def hd.o_266 : Params → Obj := fun _ => Obj.mk (Value.type "tuple") none (Data.seq #[] 0) #[]
noncomputable def hd.o_267 : Params → Obj := fun _ => Obj.mk Value.none none (Data.fields #[Value.int 60 0, Value.int 4 0, Value.ref 234, Value.int 64 0, Value.int 4 0, Value.ref 241]) #[]
noncomputable def hd.o_268 : Params → Obj := fun _ => Obj.mk (Value.type "code") none (Data.fields #[Value.str (Str.ofString "Filter") 467, Value.str (Str.ofString "Filter") 468, Value.str (Str.ofString "/claim/cut.py") 469, Value.int 58 0, Value.int 0 0, Value.int 0 0, Value.int 0 0, Value.int 0 0, Value.ref 225, Value.bool false, Value.int 181 0, Value.ref 226, Value.none, Value.none, Value.none, Value.none, Value.int 470 0, Value.int 58 0, Value.str (Str.ofString "/claim/cut.py") 471]) #[]
noncomputable def hd.o_269 : Params → Obj := fun _ => Obj.mk (Value.type "frame") none Data.plain #[some (Value.ref 227), some (Value.ref 3), some (Value.ref 224), none, some (Value.str (Str.ofString "markupmill.xpath_nodes") 241), none, some (Value.ref 0)]
noncomputable def hd.o_270 : Params → Obj := fun _ => Obj.mk (Value.type "tuple") none (Data.seq #[] 0) #[]
noncomputable def hd.o_271 : Params → Obj := fun _ => Obj.mk Value.none none (Data.fields #[]) #[]
noncomputable def hd.o_272 : Params → Obj := fun _ => Obj.mk (Value.type "tuple") none (Data.seq #[Value.str (Str.ofString "self") 480, Value.str (Str.ofString "base") 481, Value.str (Str.ofString "predicates") 482] 0) #[]
noncomputable def hd.o_273 : Params → Obj := fun _ => Obj.mk (Value.type "tuple") none (Data.seq #[] 0) #[]
noncomputable def hd.o_274 : Params → Obj := fun _ => pick3 (x := fnParts pw.main.body [11, 0]) rfl fun p b s => Obj.mk Value.none none (Data.func (FuncData.mk (Str.ofString "__init__") (Str.ofString "Filter.__init__") p (FuncBody.stmts b) s 0 [] Value.none Value.none Value.none Value.none none Value.none Value.none 0)) #[]
noncomputable def hd.o_275 : Params → Obj := fun _ => Obj.mk (Value.type "code") none (Data.fields #[Value.str (Str.ofString "__init__") 477, Value.str (Str.ofString "Filter.__init__") 478, Value.str (Str.ofString "/claim/cut.py") 479, Value.int 60 0, Value.int 3 0, Value.int 0 0, Value.int 0 0, Value.int 3 0, Value.ref 229, Value.bool true, Value.int 181 0, Value.ref 230, Value.none, Value.ref 231, Value.ref 232, Value.ref 233, Value.int 483 0, Value.int 60 0, Value.str (Str.ofString "/claim/cut.py") 484]) #[]
noncomputable def hd.o_276 : Params → Obj := fun _ => pick3 (x := fnParts pw.main.body [11, 0]) rfl fun p b s => Obj.mk (Value.type "function") none (Data.func (FuncData.mk (Str.ofString "__init__") (Str.ofString "Filter.__init__") p (FuncBody.stmts b) s 3 [] Value.none Value.none Value.none (Value.str (Str.ofString "markupmill.xpath_nodes") 241) none (Value.ref 234) Value.none 0)) #[]
noncomputable def hd.o_277 : Params → Obj := fun _ => Obj.mk (Value.type "tuple") none (Data.seq #[] 0) #[]
noncomputable def hd.o_278 : Params → Obj := fun _ => Obj.mk Value.none none (Data.fields #[]) #[]
noncomputable def hd.o_279 : Params → Obj := fun _ => Obj.mk (Value.type "tuple") none (Data.seq #[Value.str (Str.ofString "self") 489] 0) #[]
noncomputable def hd.o_280 : Params → Obj := fun _ => Obj.mk (Value.type "tuple") none (Data.seq #[] 0) #[]
noncomputable def hd.o_281 : Params → Obj := fun _ => pick3 (x := fnParts pw.main.body [11, 1]) rfl fun p b s => Obj.mk Value.none none (Data.func (FuncData.mk (Str.ofString "row") (Str.ofString "Filter.row") p (FuncBody.stmts b) s 0 [] Value.none Value.none Value.none Value.none none Value.none Value.none 0)) #[]
noncomputable def hd.o_282 : Params → Obj := fun _ => Obj.mk (Value.type "code") none (Data.fields #[Value.str (Str.ofString "row") 486, Value.str (Str.ofString "Filter.row") 487, Value.str (Str.ofString "/claim/cut.py") 488, Value.int 64 0, Value.int 1 0, Value.int 0 0, Value.int 0 0, Value.int 3 0, Value.ref 236, Value.bool true, Value.int 181 0, Value.ref 237, Value.none, Value.ref 238, Value.ref 239, Value.ref 240, Value.int 490 0, Value.int 64 0, Value.str (Str.ofString "/claim/cut.py") 491]) #[]
noncomputable def hd.o_283 : Params → Obj := fun _ => pick3 (x := fnParts pw.main.body [11, 1]) rfl fun p b s => Obj.mk (Value.type "function") none (Data.func (FuncData.mk (Str.ofString "row") (Str.ofString "Filter.row") p (FuncBody.stmts b) s 3 [] Value.none Value.none Value.none (Value.str (Str.ofString "markupmill.xpath_nodes") 241) none (Value.ref 241) Value.none 0)) #[]
noncomputable def hd.o_284 : Params → Obj := fun _ => Obj.mk (Value.type "tuple") none (Data.seq #[Value.str (Str.ofString "base") 493, Value.str (Str.ofString "predicates") 494] 0) #[]
noncomputable def hd.o_285 : Params → Obj := fun P => Obj.mk (Value.type "dict") none (Data.dict #[DictEntry.mk (PyData.keyHash P (Str.ofString "__module__")) (Value.str (Str.ofString "__module__") 472) (Value.str (Str.ofString "markupmill.xpath_nodes") 241), DictEntry.mk (PyData.keyHash P (Str.ofString "__firstlineno__")) (Value.str (Str.ofString "__firstlineno__") 476) (Value.int 58 475), DictEntry.mk (PyData.keyHash P (Str.ofString "__init__")) (Value.str (Str.ofString "__init__") 485) (Value.ref 235), DictEntry.mk (PyData.keyHash P (Str.ofString "row")) (Value.str (Str.ofString "row") 492) (Value.ref 242), DictEntry.mk (PyData.keyHash P (Str.ofString "__static_attributes__")) (Value.str (Str.ofString "__static_attributes__") 495) (Value.ref 243), DictEntry.mk (PyData.keyHash P (Str.ofString "__dict__")) (Value.str (Str.ofString "__dict__") 497) (Value.ref 246), DictEntry.mk (PyData.keyHash P (Str.ofString "__weakref__")) (Value.str (Str.ofString "__weakref__") 499) (Value.ref 247), DictEntry.mk (PyData.keyHash P (Str.ofString "__doc__")) (Value.str (Str.ofString "__doc__") 500) Value.none] 4) #[]
noncomputable def hd.o_286 : Params → Obj := fun _ => Obj.mk (Value.type "type") none (Data.cls (ClassData.mk (Str.ofString "Filter") [Value.type "object"] [Value.ref 245, Value.type "object"] 244 (Str.ofString "Filter") true [] [] false none false)) #[none, none, some (Value.str (Str.ofString "Filter") 465), some (Value.str (Str.ofString "Filter") 473), some (Value.builtin "object.__new__"), some (Value.bool true)]
noncomputable def hd.o_287 : Params → Obj := fun _ => Obj.mk (Value.type "getset_descriptor") none (Data.fields #[Value.str (Str.ofString "__dict__") 496, Value.ref 245, Value.builtin "function.__dict__", Value.builtin "function.__dict__#set"]) #[]
noncomputable def hd.o_288 : Params → Obj := fun _ => Obj.mk (Value.type "getset_descriptor") none (Data.fields #[Value.str (Str.ofString "__weakref__") 498, Value.ref 245, Value.builtin "ExceptionGroup.__weakref__", Value.none]) #[]
noncomputable def hd.o_289 : Params → Obj := fun _ => Obj.mk (Value.type "super") none (Data.fields #[Value.ref 245, Value.ref 245, Value.ref 245]) #[]
noncomputable def hd.o_290 : Params → Obj := fun _ => Obj.mk (Value.type "builtin_function_or_method") none (Data.fields #[Value.builtin "object.__init_subclass__", Value.ref 245]) #[]
noncomputable def hd.o_291 : Params → Obj := fun _ => Obj.mk (Value.type "tuple") none (Data.seq #[] 0) #[]
noncomputable def hd.o_292 : Params → Obj := fun _ => Obj.mk (Value.type "builtin_function_or_method") none (Data.fields #[Value.builtin "type.__prepare__", Value.type "type"]) #[]
noncomputable def hd.o_293 : Params → Obj := fun P => Obj.mk (Value.type "dict") none (Data.dict #[DictEntry.mk (PyData.keyHash P (Str.ofString "__module__")) (Value.str (Str.ofString "__module__") 510) (Value.str (Str.ofString "markupmill.xpath_nodes") 241), DictEntry.mk (PyData.keyHash P (Str.ofString "__qualname__")) (Value.str (Str.ofString "__qualname__") 512) (Value.str (Str.ofString "Path") 511), DictEntry.mk (PyData.keyHash P (Str.ofString "__firstlineno__")) (Value.str (Str.ofString "__firstlineno__") 514) (Value.int 66 513), DictEntry.mk (PyData.keyHash P (Str.ofString "__init__")) (Value.str (Str.ofString "__init__") 523) (Value.ref 263), DictEntry.mk (PyData.keyHash P (Str.ofString "row")) (Value.str (Str.ofString "row") 530) (Value.ref 270), DictEntry.mk (PyData.keyHash P (Str.ofString "__static_attributes__")) (Value.str (Str.ofString "__static_attributes__") 533) (Value.ref 271)] 6) #[]
noncomputable def hd.o_294 : Params → Obj := fun _ => Obj.mk (Value.type "tuple") none (Data.seq #[] 0) #[]
noncomputable def hd.o_295 : Params → Obj := fun _ => Obj.mk Value.none none (Data.fields #[Value.int 68 0, Value.int 4 0, Value.ref 262, Value.int 72 0, Value.int 4 0, Value.ref 269]) #[]
noncomputable def hd.o_296 : Params → Obj := fun _ => Obj.mk (Value.type "code") none (Data.fields #[Value.str (Str.ofString "Path") 505, Value.str (Str.ofString "Path") 506, Value.str (Str.ofString "/claim/cut.py") 507, Value.int 66 0, Value.int 0 0, Value.int 0 0, Value.int 0 0, Value.int 0 0, Value.ref 253, Value.bool false, Value.int 181 0, Value.ref 254, Value.none, Value.none, Value.none, Value.none, Value.int 508 0, Value.int 66 0, Value.str (Str.ofString "/claim/cut.py") 509]) #[]
noncomputable def hd.o_297 : Params → Obj := fun _ => Obj.mk (Value.type "frame") none Data.plain #[some (Value.ref 255), some (Value.ref 3), some (Value.ref 252), none, some (Value.str (Str.ofString "markupmill.xpath_nodes") 241), none, some (Value.ref 0)]
noncomputable def hd.o_298 : Params → Obj := fun _ => Obj.mk (Value.type "tuple") none (Data.seq #[] 0) #[]
noncomputable def hd.o_299 : Params → Obj := fun _ => Obj.mk Value.none none (Data.fields #[]) #[]
noncomputable def hd.o_300 : Params → Obj := fun _ => Obj.mk (Value.type "tuple") none (Data.seq #[Value.str (Str.ofString "self") 518, Value.str (Str.ofString "start") 519, Value.str (Str.ofString "steps") 520] 0) #[]
noncomputable def hd.o_301 : Params → Obj := fun _ => Obj.mk (Value.type "tuple") none (Data.seq #[] 0) #[]
noncomputable def hd.o_302 : Params → Obj := fun _ => pick3 (x := fnParts pw.main.body [12, 0]) rfl fun p b s => Obj.mk Value.none none (Data.func (FuncData.mk (Str.ofString "__init__") (Str.ofString "Path.__init__") p (FuncBody.stmts b) s 0 [] Value.none Value.none Value.none Value.none none Value.none Value.none 0)) #[]
noncomputable def hd.o_303 : Params → Obj := fun _ => Obj.mk (Value.type "code") none (Data.fields #[Value.str (Str.ofString "__init__") 515, Value.str (Str.ofString "Path.__init__") 516, Value.str (Str.ofString "/claim/cut.py") 517, Value.int 68 0, Value.int 3 0, Value.int 0 0, Value.int 0 0, Value.int 3 0, Value.ref 257, Value.bool true, Value.int 181 0, Value.ref 258, Value.none, Value.ref 259, Value.ref 260, Value.ref 261, Value.int 521 0, Value.int 68 0, Value.str (Str.ofString "/claim/cut.py") 522]) #[]
noncomputable def hd.o_304 : Params → Obj := fun _ => pick3 (x := fnParts pw.main.body [12, 0]) rfl fun p b s => Obj.mk (Value.type "function") none (Data.func (FuncData.mk (Str.ofString "__init__") (Str.ofString "Path.__init__") p (FuncBody.stmts b) s 3 [] Value.none Value.none Value.none (Value.str (Str.ofString "markupmill.xpath_nodes") 241) none (Value.ref 262) Value.none 0)) #[]
noncomputable def hd.o_305 : Params → Obj := fun _ => Obj.mk (Value.type "tuple") none (Data.seq #[] 0) #[]
noncomputable def hd.o_306 : Params → Obj := fun _ => Obj.mk Value.none none (Data.fields #[]) #[]
noncomputable def hd.o_307 : Params → Obj := fun _ => Obj.mk (Value.type "tuple") none (Data.seq #[Value.str (Str.ofString "self") 527] 0) #[]
noncomputable def hd.o_308 : Params → Obj := fun _ => Obj.mk (Value.type "tuple") none (Data.seq #[] 0) #[]
noncomputable def hd.o_309 : Params → Obj := fun _ => pick3 (x := fnParts pw.main.body [12, 1]) rfl fun p b s => Obj.mk Value.none none (Data.func (FuncData.mk (Str.ofString "row") (Str.ofString "Path.row") p (FuncBody.stmts b) s 0 [] Value.none Value.none Value.none Value.none none Value.none Value.none 0)) #[]
noncomputable def hd.o_310 : Params → Obj := fun _ => Obj.mk (Value.type "code") none (Data.fields #[Value.str (Str.ofString "row") 524, Value.str (Str.ofString "Path.row") 525, Value.str (Str.ofString "/claim/cut.py") 526, Value.int 72 0, Value.int 1 0, Value.int 0 0, Value.int 0 0, Value.int 3 0, Value.ref 264, Value.bool true, Value.int 181 0, Value.ref 265, Value.none, Value.ref 266, Value.ref 267, Value.ref 268, Value.int 528 0, Value.int 72 0, Value.str (Str.ofString "/claim/cut.py") 529]) #[]
noncomputable def hd.o_311 : Params → Obj := fun _ => pick3 (x := fnParts pw.main.body [12, 1]) rfl fun p b s => Obj.mk (Value.type "function") none (Data.func (FuncData.mk (Str.ofString "row") (Str.ofString "Path.row") p (FuncBody.stmts b) s 3 [] Value.none Value.none Value.none (Value.str (Str.ofString "markupmill.xpath_nodes") 241) none (Value.ref 269) Value.none 0)) #[]
noncomputable def hd.o_312 : Params → Obj := fun _ => Obj.mk (Value.type "tuple") none (Data.seq #[Value.str (Str.ofString "start") 531, Value.str (Str.ofString "steps") 532] 0) #[]
noncomputable def hd.o_313 : Params → Obj := fun P => Obj.mk (Value.type "dict") none (Data.dict #[DictEntry.mk (PyData.keyHash P (Str.ofString "__module__")) (Value.str (Str.ofString "__module__") 510) (Value.str (Str.ofString "markupmill.xpath_nodes") 241), DictEntry.mk (PyData.keyHash P (Str.ofString "__firstlineno__")) (Value.str (Str.ofString "__firstlineno__") 514) (Value.int 66 513), DictEntry.mk (PyData.keyHash P (Str.ofString "__init__")) (Value.str (Str.ofString "__init__") 523) (Value.ref 263), DictEntry.mk (PyData.keyHash P (Str.ofString "row")) (Value.str (Str.ofString "row") 530) (Value.ref 270), DictEntry.mk (PyData.keyHash P (Str.ofString "__static_attributes__")) (Value.str (Str.ofString "__static_attributes__") 533) (Value.ref 271), DictEntry.mk (PyData.keyHash P (Str.ofString "__dict__")) (Value.str (Str.ofString "__dict__") 535) (Value.ref 274), DictEntry.mk (PyData.keyHash P (Str.ofString "__weakref__")) (Value.str (Str.ofString "__weakref__") 537) (Value.ref 275), DictEntry.mk (PyData.keyHash P (Str.ofString "__doc__")) (Value.str (Str.ofString "__doc__") 538) Value.none] 4) #[]
noncomputable def hd.o_314 : Params → Obj := fun _ => Obj.mk (Value.type "type") none (Data.cls (ClassData.mk (Str.ofString "Path") [Value.type "object"] [Value.ref 273, Value.type "object"] 272 (Str.ofString "Path") true [] [] false none false)) #[none, none, some (Value.str (Str.ofString "Path") 503), some (Value.str (Str.ofString "Path") 511), some (Value.builtin "object.__new__"), some (Value.bool true)]
noncomputable def hd.o_315 : Params → Obj := fun _ => Obj.mk (Value.type "getset_descriptor") none (Data.fields #[Value.str (Str.ofString "__dict__") 534, Value.ref 273, Value.builtin "function.__dict__", Value.builtin "function.__dict__#set"]) #[]
noncomputable def hd.o_316 : Params → Obj := fun _ => Obj.mk (Value.type "getset_descriptor") none (Data.fields #[Value.str (Str.ofString "__weakref__") 536, Value.ref 273, Value.builtin "ExceptionGroup.__weakref__", Value.none]) #[]
noncomputable def hd.o_317 : Params → Obj := fun _ => Obj.mk (Value.type "super") none (Data.fields #[Value.ref 273, Value.ref 273, Value.ref 273]) #[]
noncomputable def hd.o_318 : Params → Obj := fun _ => Obj.mk (Value.type "builtin_function_or_method") none (Data.fields #[Value.builtin "object.__init_subclass__", Value.ref 273]) #[]
noncomputable def hd.o_319 : Params → Obj := fun _ => Obj.mk (Value.type "tuple") none (Data.seq #[] 0) #[]
noncomputable def hd.o_320 : Params → Obj := fun _ => Obj.mk (Value.type "builtin_function_or_method") none (Data.fields #[Value.builtin "type.__prepare__", Value.type "type"]) #[]
noncomputable def hd.o_321 : Params → Obj := fun P => Obj.mk (Value.type "dict") none (Data.dict #[DictEntry.mk (PyData.keyHash P (Str.ofString "__module__")) (Value.str (Str.ofString "__module__") 548) (Value.str (Str.ofString "markupmill.xpath_nodes") 241), DictEntry.mk (PyData.keyHash P (Str.ofString "__qualname__")) (Value.str (Str.ofString "__qualname__") 550) (Value.str (Str.ofString "Step") 549), DictEntry.mk (PyData.keyHash P (Str.ofString "__firstlineno__")) (Value.str (Str.ofString "__firstlineno__") 552) (Value.int 74 551), DictEntry.mk (PyData.keyHash P (Str.ofString "__init__")) (Value.str (Str.ofString "__init__") 562) (Value.ref 291), DictEntry.mk (PyData.keyHash P (Str.ofString "row")) (Value.str (Str.ofString "row") 569) (Value.ref 298), DictEntry.mk (PyData.keyHash P (Str.ofString "__static_attributes__")) (Value.str (Str.ofString "__static_attributes__") 573) (Value.ref 299)] 6) #[]
noncomputable def hd.o_322 : Params → Obj := fun _ => Obj.mk (Value.type "tuple") none (Data.seq #[] 0) #[]
noncomputable def hd.o_323 : Params → Obj := fun _ => Obj.mk Value.none none (Data.fields #[Value.int 76 0, Value.int 4 0, Value.ref 290, Value.int 81 0, Value.int 4 0, Value.ref 297]) #[]
noncomputable def hd.o_324 : Params → Obj := fun _ => Obj.mk (Value.type "code") none (Data.fields #[Value.str (Str.ofString "Step") 543, Value.str (Str.ofString "Step") 544, Value.str (Str.ofString "/claim/cut.py") 545, Value.int 74 0, Value.int 0 0, Value.int 0 0, Value.int 0 0, Value.int 0 0, Value.ref 281, Value.bool false, Value.int 181 0, Value.ref 282, Value.none, Value.none, Value.none, Value.none, Value.int 546 0, Value.int 74 0, Value.str (Str.ofString "/claim/cut.py") 547]) #[]
noncomputable def hd.o_325 : Params → Obj := fun _ => Obj.mk (Value.type "frame") none Data.plain #[some (Value.ref 283), some (Value.ref 3), some (Value.ref 280), none, some (Value.str (Str.ofString "markupmill.xpath_nodes") 241), none, some (Value.ref 0)]
noncomputable def hd.o_326 : Params → Obj := fun _ => Obj.mk (Value.type "tuple") none (Data.seq #[] 0) #[]
noncomputable def hd.o_327 : Params → Obj := fun _ => Obj.mk Value.none none (Data.fields #[]) #[]
noncomputable def hd.o_328 : Params → Obj := fun _ => Obj.mk (Value.type "tuple") none (Data.seq #[Value.str (Str.ofString "self") 556, Value.str (Str.ofString "axis") 557, Value.str (Str.ofString "test") 558, Value.str (Str.ofString "predicates") 559] 0) #[]
noncomputable def hd.o_329 : Params → Obj := fun _ => Obj.mk (Value.type "tuple") none (Data.seq #[] 0) #[]
noncomputable def hd.o_330 : Params → Obj := fun _ => pick3 (x := fnParts pw.main.body [13, 0]) rfl fun p b s => Obj.mk Value.none none (Data.func (FuncData.mk (Str.ofString "__init__") (Str.ofString "Step.__init__") p (FuncBody.stmts b) s 0 [] Value.none Value.none Value.none Value.none none Value.none Value.none 0)) #[]
noncomputable def hd.o_331 : Params → Obj := fun _ => Obj.mk (Value.type "code") none (Data.fields #[Value.str (Str.ofString "__init__") 553, Value.str (Str.ofString "Step.__init__") 554, Value.str (Str.ofString "/claim/cut.py") 555, Value.int 76 0, Value.int 4 0, Value.int 0 0, Value.int 0 0, Value.int 3 0, Value.ref 285, Value.bool true, Value.int 181 0, Value.ref 286, Value.none, Value.ref 287, Value.ref 288, Value.ref 289, Value.int 560 0, Value.int 76 0, Value.str (Str.ofString "/claim/cut.py") 561]) #[]
noncomputable def hd.o_332 : Params → Obj := fun _ => pick3 (x := fnParts pw.main.body [13, 0]) rfl fun p b s => Obj.mk (Value.type "function") none (Data.func (FuncData.mk (Str.ofString "__init__") (Str.ofString "Step.__init__") p (FuncBody.stmts b) s 3 [] Value.none Value.none Value.none (Value.str (Str.ofString "markupmill.xpath_nodes") 241) none (Value.ref 290) Value.none 0)) #[]
noncomputable def hd.o_333 : Params → Obj := fun _ => Obj.mk (Value.type "tuple") none (Data.seq #[] 0) #[]
noncomputable def hd.o_334 : Params → Obj := fun _ => Obj.mk Value.none none (Data.fields #[]) #[]
noncomputable def hd.o_335 : Params → Obj := fun _ => Obj.mk (Value.type "tuple") none (Data.seq #[Value.str (Str.ofString "self") 566] 0) #[]
noncomputable def hd.o_336 : Params → Obj := fun _ => Obj.mk (Value.type "tuple") none (Data.seq #[] 0) #[]
noncomputable def hd.o_337 : Params → Obj := fun _ => pick3 (x := fnParts pw.main.body [13, 1]) rfl fun p b s => Obj.mk Value.none none (Data.func (FuncData.mk (Str.ofString "row") (Str.ofString "Step.row") p (FuncBody.stmts b) s 0 [] Value.none Value.none Value.none Value.none none Value.none Value.none 0)) #[]
noncomputable def hd.o_338 : Params → Obj := fun _ => Obj.mk (Value.type "code") none (Data.fields #[Value.str (Str.ofString "row") 563, Value.str (Str.ofString "Step.row") 564, Value.str (Str.ofString "/claim/cut.py") 565, Value.int 81 0, Value.int 1 0, Value.int 0 0, Value.int 0 0, Value.int 3 0, Value.ref 292, Value.bool true, Value.int 181 0, Value.ref 293, Value.none, Value.ref 294, Value.ref 295, Value.ref 296, Value.int 567 0, Value.int 81 0, Value.str (Str.ofString "/claim/cut.py") 568]) #[]
noncomputable def hd.o_339 : Params → Obj := fun _ => pick3 (x := fnParts pw.main.body [13, 1]) rfl fun p b s => Obj.mk (Value.type "function") none (Data.func (FuncData.mk (Str.ofString "row") (Str.ofString "Step.row") p (FuncBody.stmts b) s 3 [] Value.none Value.none Value.none (Value.str (Str.ofString "markupmill.xpath_nodes") 241) none (Value.ref 297) Value.none 0)) #[]
noncomputable def hd.o_340 : Params → Obj := fun _ => Obj.mk (Value.type "tuple") none (Data.seq #[Value.str (Str.ofString "axis") 570, Value.str (Str.ofString "predicates") 571, Value.str (Str.ofString "test") 572] 0) #[]
noncomputable def hd.o_341 : Params → Obj := fun P => Obj.mk (Value.type "dict") none (Data.dict #[DictEntry.mk (PyData.keyHash P (Str.ofString "__module__")) (Value.str (Str.ofString "__module__") 548) (Value.str (Str.ofString "markupmill.xpath_nodes") 241), DictEntry.mk (PyData.keyHash P (Str.ofString "__firstlineno__")) (Value.str (Str.ofString "__firstlineno__") 552) (Value.int 74 551), DictEntry.mk (PyData.keyHash P (Str.ofString "__init__")) (Value.str (Str.ofString "__init__") 562) (Value.ref 291), DictEntry.mk (PyData.keyHash P (Str.ofString "row")) (Value.str (Str.ofString "row") 569) (Value.ref 298), DictEntry.mk (PyData.keyHash P (Str.ofString "__static_attributes__")) (Value.str (Str.ofString "__static_attributes__") 573) (Value.ref 299), DictEntry.mk (PyData.keyHash P (Str.ofString "__dict__")) (Value.str (Str.ofString "__dict__") 575) (Value.ref 302), DictEntry.mk (PyData.keyHash P (Str.ofString "__weakref__")) (Value.str (Str.ofString "__weakref__") 577) (Value.ref 303), DictEntry.mk (PyData.keyHash P (Str.ofString "__doc__")) (Value.str (Str.ofString "__doc__") 578) Value.none] 4) #[]
noncomputable def hd.o_342 : Params → Obj := fun _ => Obj.mk (Value.type "type") none (Data.cls (ClassData.mk (Str.ofString "Step") [Value.type "object"] [Value.ref 301, Value.type "object"] 300 (Str.ofString "Step") true [] [] false none false)) #[none, none, some (Value.str (Str.ofString "Step") 541), some (Value.str (Str.ofString "Step") 549), some (Value.builtin "object.__new__"), some (Value.bool true)]
noncomputable def hd.o_343 : Params → Obj := fun _ => Obj.mk (Value.type "getset_descriptor") none (Data.fields #[Value.str (Str.ofString "__dict__") 574, Value.ref 301, Value.builtin "function.__dict__", Value.builtin "function.__dict__#set"]) #[]
noncomputable def hd.o_344 : Params → Obj := fun _ => Obj.mk (Value.type "getset_descriptor") none (Data.fields #[Value.str (Str.ofString "__weakref__") 576, Value.ref 301, Value.builtin "ExceptionGroup.__weakref__", Value.none]) #[]
noncomputable def hd.o_345 : Params → Obj := fun _ => Obj.mk (Value.type "super") none (Data.fields #[Value.ref 301, Value.ref 301, Value.ref 301]) #[]
noncomputable def hd.o_346 : Params → Obj := fun _ => Obj.mk (Value.type "builtin_function_or_method") none (Data.fields #[Value.builtin "object.__init_subclass__", Value.ref 301]) #[]
noncomputable def hd.o_347 : Params → Obj := fun _ => Obj.mk (Value.type "tuple") none (Data.seq #[] 0) #[]
noncomputable def hd.o_348 : Params → Obj := fun _ => Obj.mk Value.none none (Data.fields #[]) #[]
noncomputable def hd.o_349 : Params → Obj := fun _ => Obj.mk (Value.type "tuple") none (Data.seq #[Value.str (Str.ofString "node") 596, Value.str (Str.ofString "levels") 597] 0) #[]
noncomputable def hd.o_350 : Params → Obj := fun _ => Obj.mk (Value.type "tuple") none (Data.seq #[] 0) #[]
noncomputable def hd.o_351 : Params → Obj := fun _ => pick3 (x := fnParts pw.main.body [20]) rfl fun p b s => Obj.mk Value.none none (Data.func (FuncData.mk (Str.ofString "level_of") (Str.ofString "level_of") p (FuncBody.stmts b) s 0 [] Value.none Value.none Value.none Value.none none Value.none Value.none 0)) #[]
noncomputable def hd.o_352 : Params → Obj := fun _ => Obj.mk (Value.type "code") none (Data.fields #[Value.str (Str.ofString "level_of") 593, Value.str (Str.ofString "level_of") 594, Value.str (Str.ofString "/claim/cut.py") 595, Value.int 89 0, Value.int 1 0, Value.int 0 0, Value.int 0 0, Value.int 3 0, Value.ref 306, Value.bool true, Value.int 181 0, Value.ref 307, Value.none, Value.ref 308, Value.ref 309, Value.ref 310, Value.int 598 0, Value.int 89 0, Value.str (Str.ofString "/claim/cut.py") 599]) #[]
noncomputable def hd.o_353 : Params → Obj := fun _ => pick3 (x := fnParts pw.main.body [20]) rfl fun p b s => Obj.mk (Value.type "function") none (Data.func (FuncData.mk (Str.ofString "level_of") (Str.ofString "level_of") p (FuncBody.stmts b) s 3 [] Value.none Value.none Value.none (Value.str (Str.ofString "markupmill.xpath_printer") 581) none (Value.ref 311) Value.none 0)) #[]
noncomputable def hd.o_354 : Params → Obj := fun _ => Obj.mk (Value.type "tuple") none (Data.seq #[] 0) #[]
noncomputable def hd.o_355 : Params → Obj := fun _ => Obj.mk Value.none none (Data.fields #[]) #[]
noncomputable def hd.o_356 : Params → Obj := fun _ => Obj.mk (Value.type "tuple") none (Data.seq #[Value.str (Str.ofString "text") 604] 0) #[]
noncomputable def hd.o_357 : Params → Obj := fun _ => Obj.mk (Value.type "tuple") none (Data.seq #[] 0) #[]
noncomputable def hd.o_358 : Params → Obj := fun _ => pick3 (x := fnParts pw.main.body [21]) rfl fun p b s => Obj.mk Value.none none (Data.func (FuncData.mk (Str.ofString "quoted") (Str.ofString "quoted") p (FuncBody.stmts b) s 0 [] Value.none Value.none Value.none Value.none none Value.none Value.none 0)) #[]
noncomputable def hd.o_359 : Params → Obj := fun _ => Obj.mk (Value.type "code") none (Data.fields #[Value.str (Str.ofString "quoted") 601, Value.str (Str.ofString "quoted") 602, Value.str (Str.ofString "/claim/cut.py") 603, Value.int 98 0, Value.int 1 0, Value.int 0 0, Value.int 0 0, Value.int 3 0, Value.ref 313, Value.bool true, Value.int 181 0, Value.ref 314, Value.none, Value.ref 315, Value.ref 316, Value.ref 317, Value.int 605 0, Value.int 98 0, Value.str (Str.ofString "/claim/cut.py") 606]) #[]
noncomputable def hd.o_360 : Params → Obj := fun _ => pick3 (x := fnParts pw.main.body [21]) rfl fun p b s => Obj.mk (Value.type "function") none (Data.func (FuncData.mk (Str.ofString "quoted") (Str.ofString "quoted") p (FuncBody.stmts b) s 3 [] Value.none Value.none Value.none (Value.str (Str.ofString "markupmill.xpath_printer") 581) none (Value.ref 318) Value.none 0)) #[]
noncomputable def hd.o_361 : Params → Obj := fun _ => Obj.mk (Value.type "tuple") none (Data.seq #[] 0) #[]
noncomputable def hd.o_362 : Params → Obj := fun _ => Obj.mk Value.none none (Data.fields #[]) #[]
noncomputable def hd.o_363 : Params → Obj := fun _ => Obj.mk (Value.type "tuple") none (Data.seq #[Value.str (Str.ofString "value") 611, Value.str (Str.ofString "top") 612, Value.str (Str.ofString "bottom") 613, Value.str (Str.ofString "figures") 614, Value.str (Str.ofString "shown") 615] 0) #[]
noncomputable def hd.o_364 : Params → Obj := fun _ => Obj.mk (Value.type "tuple") none (Data.seq #[] 0) #[]
noncomputable def hd.o_365 : Params → Obj := fun _ => pick3 (x := fnParts pw.main.body [22]) rfl fun p b s => Obj.mk Value.none none (Data.func (FuncData.mk (Str.ofString "decimal_text") (Str.ofString "decimal_text") p (FuncBody.stmts b) s 0 [] Value.none Value.none Value.none Value.none none Value.none Value.none 0)) #[]
noncomputable def hd.o_366 : Params → Obj := fun _ => Obj.mk (Value.type "code") none (Data.fields #[Value.str (Str.ofString "decimal_text") 608, Value.str (Str.ofString "decimal_text") 609, Value.str (Str.ofString "/claim/cut.py") 610, Value.int 104 0, Value.int 1 0, Value.int 0 0, Value.int 0 0, Value.int 3 0, Value.ref 320, Value.bool true, Value.int 181 0, Value.ref 321, Value.none, Value.ref 322, Value.ref 323, Value.ref 324, Value.int 616 0, Value.int 104 0, Value.str (Str.ofString "/claim/cut.py") 617]) #[]
noncomputable def hd.o_367 : Params → Obj := fun _ => pick3 (x := fnParts pw.main.body [22]) rfl fun p b s => Obj.mk (Value.type "function") none (Data.func (FuncData.mk (Str.ofString "decimal_text") (Str.ofString "decimal_text") p (FuncBody.stmts b) s 3 [] Value.none Value.none Value.none (Value.str (Str.ofString "markupmill.xpath_printer") 581) none (Value.ref 325) Value.none 0)) #[]
noncomputable def hd.o_368 : Params → Obj := fun _ => Obj.mk (Value.type "tuple") none (Data.seq #[] 0) #[]
noncomputable def hd.o_369 : Params → Obj := fun _ => Obj.mk Value.none none (Data.fields #[]) #[]
noncomputable def hd.o_370 : Params → Obj := fun _ => Obj.mk (Value.type "tuple") none (Data.seq #[Value.str (Str.ofString "test") 622] 0) #[]
noncomputable def hd.o_371 : Params → Obj := fun _ => Obj.mk (Value.type "tuple") none (Data.seq #[] 0) #[]
noncomputable def hd.o_372 : Params → Obj := fun _ => pick3 (x := fnParts pw.main.body [23]) rfl fun p b s => Obj.mk Value.none none (Data.func (FuncData.mk (Str.ofString "test_text") (Str.ofString "test_text") p (FuncBody.stmts b) s 0 [] Value.none Value.none Value.none Value.none none Value.none Value.none 0)) #[]
noncomputable def hd.o_373 : Params → Obj := fun _ => Obj.mk (Value.type "code") none (Data.fields #[Value.str (Str.ofString "test_text") 619, Value.str (Str.ofString "test_text") 620, Value.str (Str.ofString "/claim/cut.py") 621, Value.int 118 0, Value.int 1 0, Value.int 0 0, Value.int 0 0, Value.int 3 0, Value.ref 327, Value.bool true, Value.int 181 0, Value.ref 328, Value.none, Value.ref 329, Value.ref 330, Value.ref 331, Value.int 623 0, Value.int 118 0, Value.str (Str.ofString "/claim/cut.py") 624]) #[]
noncomputable def hd.o_374 : Params → Obj := fun _ => pick3 (x := fnParts pw.main.body [23]) rfl fun p b s => Obj.mk (Value.type "function") none (Data.func (FuncData.mk (Str.ofString "test_text") (Str.ofString "test_text") p (FuncBody.stmts b) s 3 [] Value.none Value.none Value.none (Value.str (Str.ofString "markupmill.xpath_printer") 581) none (Value.ref 332) Value.none 0)) #[]
noncomputable def hd.o_375 : Params → Obj := fun _ => Obj.mk (Value.type "tuple") none (Data.seq #[] 0) #[]
noncomputable def hd.o_376 : Params → Obj := fun _ => Obj.mk Value.none none (Data.fields #[]) #[]
noncomputable def hd.o_377 : Params → Obj := fun _ => Obj.mk (Value.type "tuple") none (Data.seq #[Value.str (Str.ofString "script") 631, Value.str (Str.ofString "cell") 632, Value.str (Str.ofString "size") 633] 0) #[]
noncomputable def hd.o_378 : Params → Obj := fun _ => Obj.mk (Value.type "tuple") none (Data.seq #[] 0) #[]
noncomputable def hd.o_379 : Params → Obj := fun _ => pick3 (x := fnParts pw.main.body [25]) rfl fun p b s => Obj.mk Value.none none (Data.func (FuncData.mk (Str.ofString "_law_pool") (Str.ofString "_law_pool") p (FuncBody.stmts b) s 0 [] Value.none Value.none Value.none Value.none none Value.none Value.none 0)) #[]
noncomputable def hd.o_380 : Params → Obj := fun _ => Obj.mk (Value.type "code") none (Data.fields #[Value.str (Str.ofString "_law_pool") 628, Value.str (Str.ofString "_law_pool") 629, Value.str (Str.ofString "/claim/cut.py") 630, Value.int 129 0, Value.int 1 0, Value.int 0 0, Value.int 0 0, Value.int 3 0, Value.ref 334, Value.bool true, Value.int 181 0, Value.ref 335, Value.none, Value.ref 336, Value.ref 337, Value.ref 338, Value.int 634 0, Value.int 129 0, Value.str (Str.ofString "/claim/cut.py") 635]) #[]
noncomputable def hd.o_381 : Params → Obj := fun _ => pick3 (x := fnParts pw.main.body [25]) rfl fun p b s => Obj.mk (Value.type "function") none (Data.func (FuncData.mk (Str.ofString "_law_pool") (Str.ofString "_law_pool") p (FuncBody.stmts b) s 3 [] Value.none Value.none Value.none (Value.str (Str.ofString "law_xm0658_01") 626) none (Value.ref 339) Value.none 0)) #[]
noncomputable def hd.o_382 : Params → Obj := fun _ => Obj.mk (Value.type "tuple") none (Data.seq #[] 0) #[]
noncomputable def hd.o_383 : Params → Obj := fun _ => Obj.mk Value.none none (Data.fields #[]) #[]
noncomputable def hd.o_384 : Params → Obj := fun _ => Obj.mk (Value.type "tuple") none (Data.seq #[Value.str (Str.ofString "source") 640, Value.str (Str.ofString "top") 641, Value.str (Str.ofString "figure") 642] 0) #[]
noncomputable def hd.o_385 : Params → Obj := fun _ => Obj.mk (Value.type "tuple") none (Data.seq #[] 0) #[]
noncomputable def hd.o_386 : Params → Obj := fun _ => pick3 (x := fnParts pw.main.body [26]) rfl fun p b s => Obj.mk Value.none none (Data.func (FuncData.mk (Str.ofString "_law_take") (Str.ofString "_law_take") p (FuncBody.stmts b) s 0 [] Value.none Value.none Value.none Value.none none Value.none Value.none 0)) #[]
noncomputable def hd.o_387 : Params → Obj := fun _ => Obj.mk (Value.type "code") none (Data.fields #[Value.str (Str.ofString "_law_take") 637, Value.str (Str.ofString "_law_take") 638, Value.str (Str.ofString "/claim/cut.py") 639, Value.int 133 0, Value.int 2 0, Value.int 0 0, Value.int 0 0, Value.int 3 0, Value.ref 341, Value.bool true, Value.int 181 0, Value.ref 342, Value.none, Value.ref 343, Value.ref 344, Value.ref 345, Value.int 643 0, Value.int 133 0, Value.str (Str.ofString "/claim/cut.py") 644]) #[]
noncomputable def hd.o_388 : Params → Obj := fun _ => pick3 (x := fnParts pw.main.body [26]) rfl fun p b s => Obj.mk (Value.type "function") none (Data.func (FuncData.mk (Str.ofString "_law_take") (Str.ofString "_law_take") p (FuncBody.stmts b) s 3 [] Value.none Value.none Value.none (Value.str (Str.ofString "law_xm0658_01") 626) none (Value.ref 346) Value.none 0)) #[]
noncomputable def hd.o_389 : Params → Obj := fun _ => Obj.mk (Value.type "tuple") none (Data.seq #[] 0) #[]
noncomputable def hd.o_390 : Params → Obj := fun _ => Obj.mk Value.none none (Data.fields #[]) #[]
noncomputable def hd.o_391 : Params → Obj := fun _ => Obj.mk (Value.type "tuple") none (Data.seq #[Value.str (Str.ofString "source") 649, Value.str (Str.ofString "things") 650] 0) #[]
noncomputable def hd.o_392 : Params → Obj := fun _ => Obj.mk (Value.type "tuple") none (Data.seq #[] 0) #[]
noncomputable def hd.o_393 : Params → Obj := fun _ => pick3 (x := fnParts pw.main.body [27]) rfl fun p b s => Obj.mk Value.none none (Data.func (FuncData.mk (Str.ofString "_law_one") (Str.ofString "_law_one") p (FuncBody.stmts b) s 0 [] Value.none Value.none Value.none Value.none none Value.none Value.none 0)) #[]
noncomputable def hd.o_394 : Params → Obj := fun _ => Obj.mk (Value.type "code") none (Data.fields #[Value.str (Str.ofString "_law_one") 646, Value.str (Str.ofString "_law_one") 647, Value.str (Str.ofString "/claim/cut.py") 648, Value.int 140 0, Value.int 2 0, Value.int 0 0, Value.int 0 0, Value.int 3 0, Value.ref 348, Value.bool true, Value.int 181 0, Value.ref 349, Value.none, Value.ref 350, Value.ref 351, Value.ref 352, Value.int 651 0, Value.int 140 0, Value.str (Str.ofString "/claim/cut.py") 652]) #[]
noncomputable def hd.o_395 : Params → Obj := fun _ => pick3 (x := fnParts pw.main.body [27]) rfl fun p b s => Obj.mk (Value.type "function") none (Data.func (FuncData.mk (Str.ofString "_law_one") (Str.ofString "_law_one") p (FuncBody.stmts b) s 3 [] Value.none Value.none Value.none (Value.str (Str.ofString "law_xm0658_01") 626) none (Value.ref 353) Value.none 0)) #[]
noncomputable def hd.o_396 : Params → Obj := fun _ => Obj.mk (Value.type "tuple") none (Data.seq #[] 0) #[]
noncomputable def hd.o_397 : Params → Obj := fun _ => Obj.mk Value.none none (Data.fields #[]) #[]
noncomputable def hd.o_398 : Params → Obj := fun _ => Obj.mk (Value.type "tuple") none (Data.seq #[Value.str (Str.ofString "source") 657, Value.str (Str.ofString "one") 658, Value.str (Str.ofString "other") 659, Value.str (Str.ofString "sorts") 660, Value.str (Str.ofString "place") 661, Value.str (Str.ofString "word") 662, Value.str (Str.ofString "step") 663, Value.str (Str.ofString "leaves") 664] 0) #[]
noncomputable def hd.o_399 : Params → Obj := fun _ => Obj.mk (Value.type "tuple") none (Data.seq #[] 0) #[]
noncomputable def hd.o_400 : Params → Obj := fun _ => pick3 (x := fnParts pw.main.body [28]) rfl fun p b s => Obj.mk Value.none none (Data.func (FuncData.mk (Str.ofString "_law_weight") (Str.ofString "_law_weight") p (FuncBody.stmts b) s 0 [] Value.none Value.none Value.none Value.none none Value.none Value.none 0)) #[]
noncomputable def hd.o_401 : Params → Obj := fun _ => Obj.mk (Value.type "code") none (Data.fields #[Value.str (Str.ofString "_law_weight") 654, Value.str (Str.ofString "_law_weight") 655, Value.str (Str.ofString "/claim/cut.py") 656, Value.int 142 0, Value.int 1 0, Value.int 0 0, Value.int 0 0, Value.int 3 0, Value.ref 355, Value.bool true, Value.int 181 0, Value.ref 356, Value.none, Value.ref 357, Value.ref 358, Value.ref 359, Value.int 665 0, Value.int 142 0, Value.str (Str.ofString "/claim/cut.py") 666]) #[]
noncomputable def hd.o_402 : Params → Obj := fun _ => pick3 (x := fnParts pw.main.body [28]) rfl fun p b s => Obj.mk (Value.type "function") none (Data.func (FuncData.mk (Str.ofString "_law_weight") (Str.ofString "_law_weight") p (FuncBody.stmts b) s 3 [] Value.none Value.none Value.none (Value.str (Str.ofString "law_xm0658_01") 626) none (Value.ref 360) Value.none 0)) #[]
noncomputable def hd.o_403 : Params → Obj := fun _ => Obj.mk (Value.type "tuple") none (Data.seq #[] 0) #[]
noncomputable def hd.o_404 : Params → Obj := fun _ => Obj.mk Value.none none (Data.fields #[]) #[]
noncomputable def hd.o_405 : Params → Obj := fun _ => Obj.mk (Value.type "tuple") none (Data.seq #[Value.str (Str.ofString "top") 671, Value.str (Str.ofString "bottom") 672, Value.str (Str.ofString "one") 673, Value.str (Str.ofString "other") 674] 0) #[]
noncomputable def hd.o_406 : Params → Obj := fun _ => Obj.mk (Value.type "tuple") none (Data.seq #[] 0) #[]
noncomputable def hd.o_407 : Params → Obj := fun _ => pick3 (x := fnParts pw.main.body [29]) rfl fun p b s => Obj.mk Value.none none (Data.func (FuncData.mk (Str.ofString "_law_lowest") (Str.ofString "_law_lowest") p (FuncBody.stmts b) s 0 [] Value.none Value.none Value.none Value.none none Value.none Value.none 0)) #[]
noncomputable def hd.o_408 : Params → Obj := fun _ => Obj.mk (Value.type "code") none (Data.fields #[Value.str (Str.ofString "_law_lowest") 668, Value.str (Str.ofString "_law_lowest") 669, Value.str (Str.ofString "/claim/cut.py") 670, Value.int 162 0, Value.int 2 0, Value.int 0 0, Value.int 0 0, Value.int 3 0, Value.ref 362, Value.bool true, Value.int 181 0, Value.ref 363, Value.none, Value.ref 364, Value.ref 365, Value.ref 366, Value.int 675 0, Value.int 162 0, Value.str (Str.ofString "/claim/cut.py") 676]) #[]
noncomputable def hd.o_409 : Params → Obj := fun _ => pick3 (x := fnParts pw.main.body [29]) rfl fun p b s => Obj.mk (Value.type "function") none (Data.func (FuncData.mk (Str.ofString "_law_lowest") (Str.ofString "_law_lowest") p (FuncBody.stmts b) s 3 [] Value.none Value.none Value.none (Value.str (Str.ofString "law_xm0658_01") 626) none (Value.ref 367) Value.none 0)) #[]
noncomputable def hd.o_410 : Params → Obj := fun _ => Obj.mk (Value.type "tuple") none (Data.seq #[] 0) #[]
noncomputable def hd.o_411 : Params → Obj := fun _ => Obj.mk Value.none none (Data.fields #[]) #[]
noncomputable def hd.o_412 : Params → Obj := fun _ => Obj.mk (Value.type "tuple") none (Data.seq #[Value.str (Str.ofString "value") 681] 0) #[]
noncomputable def hd.o_413 : Params → Obj := fun _ => Obj.mk (Value.type "tuple") none (Data.seq #[] 0) #[]
noncomputable def hd.o_414 : Params → Obj := fun _ => pick3 (x := fnParts pw.main.body [30]) rfl fun p b s => Obj.mk Value.none none (Data.func (FuncData.mk (Str.ofString "_law_written") (Str.ofString "_law_written") p (FuncBody.stmts b) s 0 [] Value.none Value.none Value.none Value.none none Value.none Value.none 0)) #[]
noncomputable def hd.o_415 : Params → Obj := fun _ => Obj.mk (Value.type "code") none (Data.fields #[Value.str (Str.ofString "_law_written") 678, Value.str (Str.ofString "_law_written") 679, Value.str (Str.ofString "/claim/cut.py") 680, Value.int 167 0, Value.int 1 0, Value.int 0 0, Value.int 0 0, Value.int 3 0, Value.ref 369, Value.bool true, Value.int 181 0, Value.ref 370, Value.none, Value.ref 371, Value.ref 372, Value.ref 373, Value.int 682 0, Value.int 167 0, Value.str (Str.ofString "/claim/cut.py") 683]) #[]
noncomputable def hd.o_416 : Params → Obj := fun _ => pick3 (x := fnParts pw.main.body [30]) rfl fun p b s => Obj.mk (Value.type "function") none (Data.func (FuncData.mk (Str.ofString "_law_written") (Str.ofString "_law_written") p (FuncBody.stmts b) s 3 [] Value.none Value.none Value.none (Value.str (Str.ofString "law_xm0658_01") 626) none (Value.ref 374) Value.none 0)) #[]
noncomputable def hd.o_417 : Params → Obj := fun _ => Obj.mk (Value.type "tuple") none (Data.seq #[] 0) #[]
noncomputable def hd.o_418 : Params → Obj := fun _ => Obj.mk Value.none none (Data.fields #[]) #[]
noncomputable def hd.o_419 : Params → Obj := fun _ => pick3 (x := fnParts pw.main.body [31]) rfl fun p b s => Obj.mk Value.none none (Data.func (FuncData.mk (Str.ofString "_law_decimal_right") (Str.ofString "_law_decimal_right") p (FuncBody.stmts b) s 0 [] Value.none Value.none Value.none Value.none none Value.none Value.none 0)) #[]
noncomputable def hd.o_420 : Params → Obj := fun _ => Obj.mk (Value.type "code") none (Data.fields #[Value.str (Str.ofString "_law_decimal_right") 685, Value.str (Str.ofString "_law_decimal_right") 686, Value.str (Str.ofString "/claim/cut.py") 687, Value.int 172 0, Value.int 1 0, Value.int 0 0, Value.int 0 0, Value.int 3 0, Value.ref 376, Value.bool true, Value.int 181 0, Value.ref 377, Value.none, Value.none, Value.none, Value.ref 378, Value.int 688 0, Value.int 172 0, Value.str (Str.ofString "/claim/cut.py") 689]) #[]
noncomputable def hd.o_421 : Params → Obj := fun _ => pick3 (x := fnParts pw.main.body [31]) rfl fun p b s => Obj.mk (Value.type "function") none (Data.func (FuncData.mk (Str.ofString "_law_decimal_right") (Str.ofString "_law_decimal_right") p (FuncBody.stmts b) s 3 [] Value.none Value.none Value.none (Value.str (Str.ofString "law_xm0658_01") 626) none (Value.ref 379) Value.none 0)) #[]
noncomputable def hd.o_422 : Params → Obj := fun _ => Obj.mk (Value.type "tuple") none (Data.seq #[] 0) #[]
noncomputable def hd.o_423 : Params → Obj := fun _ => Obj.mk Value.none none (Data.fields #[]) #[]
noncomputable def hd.o_424 : Params → Obj := fun _ => Obj.mk (Value.type "tuple") none (Data.seq #[Value.str (Str.ofString "source") 694, Value.str (Str.ofString "some") 695, Value.str (Str.ofString "value") 696, Value.str (Str.ofString "due") 697] 0) #[]
noncomputable def hd.o_425 : Params → Obj := fun _ => Obj.mk (Value.type "tuple") none (Data.seq #[] 0) #[]
noncomputable def hd.o_426 : Params → Obj := fun _ => pick3 (x := fnParts pw.main.body [32]) rfl fun p b s => Obj.mk Value.none none (Data.func (FuncData.mk (Str.ofString "_law_far_right") (Str.ofString "_law_far_right") p (FuncBody.stmts b) s 0 [] Value.none Value.none Value.none Value.none none Value.none Value.none 0)) #[]
noncomputable def hd.o_427 : Params → Obj := fun _ => Obj.mk (Value.type "code") none (Data.fields #[Value.str (Str.ofString "_law_far_right") 691, Value.str (Str.ofString "_law_far_right") 692, Value.str (Str.ofString "/claim/cut.py") 693, Value.int 183 0, Value.int 1 0, Value.int 0 0, Value.int 0 0, Value.int 3 0, Value.ref 381, Value.bool true, Value.int 181 0, Value.ref 382, Value.none, Value.ref 383, Value.ref 384, Value.ref 385, Value.int 698 0, Value.int 183 0, Value.str (Str.ofString "/claim/cut.py") 699]) #[]
noncomputable def hd.o_428 : Params → Obj := fun _ => pick3 (x := fnParts pw.main.body [32]) rfl fun p b s => Obj.mk (Value.type "function") none (Data.func (FuncData.mk (Str.ofString "_law_far_right") (Str.ofString "_law_far_right") p (FuncBody.stmts b) s 3 [] Value.none Value.none Value.none (Value.str (Str.ofString "law_xm0658_01") 626) none (Value.ref 386) Value.none 0)) #[]
noncomputable def hd.tree_428 : Params → BT := fun P => BT.node (boot_o_0 P) (BT.node (boot_o_1 P) (BT.node (hd.o_261 P) (BT.node (boot_o_7 P) (BT.node (hd.o_52 P) (BT.node (hd.o_68 P) (BT.node (hd.o_100 P) (BT.node (hd.o_166 P) (BT.node (hd.o_296 P) BT.nil BT.nil) (BT.node (hd.o_424 P) BT.nil BT.nil)) (BT.node (hd.o_230 P) (BT.node (hd.o_360 P) BT.nil BT.nil) BT.nil)) (BT.node (hd.o_132 P) (BT.node (hd.o_198 P) (BT.node (hd.o_328 P) BT.nil BT.nil) BT.nil) (BT.node (hd.o_264 P) (BT.node (hd.o_392 P) BT.nil BT.nil) BT.nil))) (BT.node (hd.o_84 P) (BT.node (hd.o_116 P) (BT.node (hd.o_182 P) (BT.node (hd.o_312 P) BT.nil BT.nil) BT.nil) (BT.node (hd.o_246 P) (BT.node (hd.o_376 P) BT.nil BT.nil) BT.nil)) (BT.node (hd.o_150 P) (BT.node (hd.o_214 P) (BT.node (hd.o_344 P) BT.nil BT.nil) BT.nil) (BT.node (hd.o_280 P) (BT.node (hd.o_408 P) BT.nil BT.nil) BT.nil)))) (BT.node (hd.o_60 P) (BT.node (hd.o_76 P) (BT.node (hd.o_108 P) (BT.node (hd.o_174 P) (BT.node (hd.o_304 P) BT.nil BT.nil) BT.nil) (BT.node (hd.o_238 P) (BT.node (hd.o_368 P) BT.nil BT.nil) BT.nil)) (BT.node (hd.o_140 P) (BT.node (hd.o_206 P) (BT.node (hd.o_336 P) BT.nil BT.nil) BT.nil) (BT.node (hd.o_272 P) (BT.node (hd.o_400 P) BT.nil BT.nil) BT.nil))) (BT.node (hd.o_92 P) (BT.node (hd.o_124 P) (BT.node (hd.o_190 P) (BT.node (hd.o_320 P) BT.nil BT.nil) BT.nil) (BT.node (hd.o_254 P) (BT.node (hd.o_384 P) BT.nil BT.nil) BT.nil)) (BT.node (hd.o_158 P) (BT.node (hd.o_222 P) (BT.node (hd.o_352 P) BT.nil BT.nil) BT.nil) (BT.node (hd.o_288 P) (BT.node (hd.o_416 P) BT.nil BT.nil) BT.nil))))) (BT.node (hd.o_43 P) (BT.node (hd.o_56 P) (BT.node (hd.o_72 P) (BT.node (hd.o_104 P) (BT.node (hd.o_170 P) (BT.node (hd.o_300 P) BT.nil BT.nil) (BT.node (hd.o_428 P) BT.nil BT.nil)) (BT.node (hd.o_234 P) (BT.node (hd.o_364 P) BT.nil BT.nil) BT.nil)) (BT.node (hd.o_136 P) (BT.node (hd.o_202 P) (BT.node (hd.o_332 P) BT.nil BT.nil) BT.nil) (BT.node (hd.o_268 P) (BT.node (hd.o_396 P) BT.nil BT.nil) BT.nil))) (BT.node (hd.o_88 P) (BT.node (hd.o_120 P) (BT.node (hd.o_186 P) (BT.node (hd.o_316 P) BT.nil BT.nil) BT.nil) (BT.node (hd.o_250 P) (BT.node (hd.o_380 P) BT.nil BT.nil) BT.nil)) (BT.node (hd.o_154 P) (BT.node (hd.o_218 P) (BT.node (hd.o_348 P) BT.nil BT.nil) BT.nil) (BT.node (hd.o_284 P) (BT.node (hd.o_412 P) BT.nil BT.nil) BT.nil)))) (BT.node (hd.o_64 P) (BT.node (hd.o_80 P) (BT.node (hd.o_112 P) (BT.node (hd.o_178 P) (BT.node (hd.o_308 P) BT.nil BT.nil) BT.nil) (BT.node (hd.o_242 P) (BT.node (hd.o_372 P) BT.nil BT.nil) BT.nil)) (BT.node (hd.o_144 P) (BT.node (hd.o_210 P) (BT.node (hd.o_340 P) BT.nil BT.nil) BT.nil) (BT.node (hd.o_276 P) (BT.node (hd.o_404 P) BT.nil BT.nil) BT.nil))) (BT.node (hd.o_96 P) (BT.node (hd.o_128 P) (BT.node (hd.o_194 P) (BT.node (hd.o_324 P) BT.nil BT.nil) BT.nil) (BT.node (hd.o_258 P) (BT.node (hd.o_388 P) BT.nil BT.nil) BT.nil)) (BT.node (hd.o_162 P) (BT.node (hd.o_226 P) (BT.node (hd.o_356 P) BT.nil BT.nil) BT.nil) (BT.node (hd.o_292 P) (BT.node (hd.o_420 P) BT.nil BT.nil) BT.nil)))))) (BT.node (boot_o_5 P) (BT.node (boot_o_9 P) (BT.node (hd.o_54 P) (BT.node (hd.o_70 P) (BT.node (hd.o_102 P) (BT.node (hd.o_168 P) (BT.node (hd.o_298 P) BT.nil BT.nil) (BT.node (hd.o_426 P) BT.nil BT.nil)) (BT.node (hd.o_232 P) (BT.node (hd.o_362 P) BT.nil BT.nil) BT.nil)) (BT.node (hd.o_134 P) (BT.node (hd.o_200 P) (BT.node (hd.o_330 P) BT.nil BT.nil) BT.nil) (BT.node (hd.o_266 P) (BT.node (hd.o_394 P) BT.nil BT.nil) BT.nil))) (BT.node (hd.o_86 P) (BT.node (hd.o_118 P) (BT.node (hd.o_184 P) (BT.node (hd.o_314 P) BT.nil BT.nil) BT.nil) (BT.node (hd.o_248 P) (BT.node (hd.o_378 P) BT.nil BT.nil) BT.nil)) (BT.node (hd.o_152 P) (BT.node (hd.o_216 P) (BT.node (hd.o_346 P) BT.nil BT.nil) BT.nil) (BT.node (hd.o_282 P) (BT.node (hd.o_410 P) BT.nil BT.nil) BT.nil)))) (BT.node (hd.o_62 P) (BT.node (hd.o_78 P) (BT.node (hd.o_110 P) (BT.node (hd.o_176 P) (BT.node (hd.o_306 P) BT.nil BT.nil) BT.nil) (BT.node (hd.o_240 P) (BT.node (hd.o_370 P) BT.nil BT.nil) BT.nil)) (BT.node (hd.o_142 P) (BT.node (hd.o_208 P) (BT.node (hd.o_338 P) BT.nil BT.nil) BT.nil) (BT.node (hd.o_274 P) (BT.node (hd.o_402 P) BT.nil BT.nil) BT.nil))) (BT.node (hd.o_94 P) (BT.node (hd.o_126 P) (BT.node (hd.o_192 P) (BT.node (hd.o_322 P) BT.nil BT.nil) BT.nil) (BT.node (hd.o_256 P) (BT.node (hd.o_386 P) BT.nil BT.nil) BT.nil)) (BT.node (hd.o_160 P) (BT.node (hd.o_224 P) (BT.node (hd.o_354 P) BT.nil BT.nil) BT.nil) (BT.node (hd.o_290 P) (BT.node (hd.o_418 P) BT.nil BT.nil) BT.nil))))) (BT.node (hd.o_45 P) (BT.node (hd.o_58 P) (BT.node (hd.o_74 P) (BT.node (hd.o_106 P) (BT.node (hd.o_172 P) (BT.node (hd.o_302 P) BT.nil BT.nil) BT.nil) (BT.node (hd.o_236 P) (BT.node (hd.o_366 P) BT.nil BT.nil) BT.nil)) (BT.node (hd.o_138 P) (BT.node (hd.o_204 P) (BT.node (hd.o_334 P) BT.nil BT.nil) BT.nil) (BT.node (hd.o_270 P) (BT.node (hd.o_398 P) BT.nil BT.nil) BT.nil))) (BT.node (hd.o_90 P) (BT.node (hd.o_122 P) (BT.node (hd.o_188 P) (BT.node (hd.o_318 P) BT.nil BT.nil) BT.nil) (BT.node (hd.o_252 P) (BT.node (hd.o_382 P) BT.nil BT.nil) BT.nil)) (BT.node (hd.o_156 P) (BT.node (hd.o_220 P) (BT.node (hd.o_350 P) BT.nil BT.nil) BT.nil) (BT.node (hd.o_286 P) (BT.node (hd.o_414 P) BT.nil BT.nil) BT.nil)))) (BT.node (hd.o_66 P) (BT.node (hd.o_82 P) (BT.node (hd.o_114 P) (BT.node (hd.o_180 P) (BT.node (hd.o_310 P) BT.nil BT.nil) BT.nil) (BT.node (hd.o_244 P) (BT.node (hd.o_374 P) BT.nil BT.nil) BT.nil)) (BT.node (hd.o_146 P) (BT.node (hd.o_212 P) (BT.node (hd.o_342 P) BT.nil BT.nil) BT.nil) (BT.node (hd.o_278 P) (BT.node (hd.o_406 P) BT.nil BT.nil) BT.nil))) (BT.node (hd.o_98 P) (BT.node (hd.o_130 P) (BT.node (hd.o_196 P) (BT.node (hd.o_326 P) BT.nil BT.nil) BT.nil) (BT.node (hd.o_260 P) (BT.node (hd.o_390 P) BT.nil BT.nil) BT.nil)) (BT.node (hd.o_164 P) (BT.node (hd.o_228 P) (BT.node (hd.o_358 P) BT.nil BT.nil) BT.nil) (BT.node (hd.o_294 P) (BT.node (hd.o_422 P) BT.nil BT.nil) BT.nil))))))) (BT.node (hd.o_49 P) (BT.node (boot_o_4 P) (BT.node (boot_o_8 P) (BT.node (hd.o_53 P) (BT.node (hd.o_69 P) (BT.node (hd.o_101 P) (BT.node (hd.o_167 P) (BT.node (hd.o_297 P) BT.nil BT.nil) (BT.node (hd.o_425 P) BT.nil BT.nil)) (BT.node (hd.o_231 P) (BT.node (hd.o_361 P) BT.nil BT.nil) BT.nil)) (BT.node (hd.o_133 P) (BT.node (hd.o_199 P) (BT.node (hd.o_329 P) BT.nil BT.nil) BT.nil) (BT.node (hd.o_265 P) (BT.node (hd.o_393 P) BT.nil BT.nil) BT.nil))) (BT.node (hd.o_85 P) (BT.node (hd.o_117 P) (BT.node (hd.o_183 P) (BT.node (hd.o_313 P) BT.nil BT.nil) BT.nil) (BT.node (hd.o_247 P) (BT.node (hd.o_377 P) BT.nil BT.nil) BT.nil)) (BT.node (hd.o_151 P) (BT.node (hd.o_215 P) (BT.node (hd.o_345 P) BT.nil BT.nil) BT.nil) (BT.node (hd.o_281 P) (BT.node (hd.o_409 P) BT.nil BT.nil) BT.nil)))) (BT.node (hd.o_61 P) (BT.node (hd.o_77 P) (BT.node (hd.o_109 P) (BT.node (hd.o_175 P) (BT.node (hd.o_305 P) BT.nil BT.nil) BT.nil) (BT.node (hd.o_239 P) (BT.node (hd.o_369 P) BT.nil BT.nil) BT.nil)) (BT.node (hd.o_141 P) (BT.node (hd.o_207 P) (BT.node (hd.o_337 P) BT.nil BT.nil) BT.nil) (BT.node (hd.o_273 P) (BT.node (hd.o_401 P) BT.nil BT.nil) BT.nil))) (BT.node (hd.o_93 P) (BT.node (hd.o_125 P) (BT.node (hd.o_191 P) (BT.node (hd.o_321 P) BT.nil BT.nil) BT.nil) (BT.node (hd.o_255 P) (BT.node (hd.o_385 P) BT.nil BT.nil) BT.nil)) (BT.node (hd.o_159 P) (BT.node (hd.o_223 P) (BT.node (hd.o_353 P) BT.nil BT.nil) BT.nil) (BT.node (hd.o_289 P) (BT.node (hd.o_417 P) BT.nil BT.nil) BT.nil))))) (BT.node (hd.o_262 P) (BT.node (hd.o_57 P) (BT.node (hd.o_73 P) (BT.node (hd.o_105 P) (BT.node (hd.o_171 P) (BT.node (hd.o_301 P) BT.nil BT.nil) BT.nil) (BT.node (hd.o_235 P) (BT.node (hd.o_365 P) BT.nil BT.nil) BT.nil)) (BT.node (hd.o_137 P) (BT.node (hd.o_203 P) (BT.node (hd.o_333 P) BT.nil BT.nil) BT.nil) (BT.node (hd.o_269 P) (BT.node (hd.o_397 P) BT.nil BT.nil) BT.nil))) (BT.node (hd.o_89 P) (BT.node (hd.o_121 P) (BT.node (hd.o_187 P) (BT.node (hd.o_317 P) BT.nil BT.nil) BT.nil) (BT.node (hd.o_251 P) (BT.node (hd.o_381 P) BT.nil BT.nil) BT.nil)) (BT.node (hd.o_155 P) (BT.node (hd.o_219 P) (BT.node (hd.o_349 P) BT.nil BT.nil) BT.nil) (BT.node (hd.o_285 P) (BT.node (hd.o_413 P) BT.nil BT.nil) BT.nil)))) (BT.node (hd.o_65 P) (BT.node (hd.o_81 P) (BT.node (hd.o_113 P) (BT.node (hd.o_179 P) (BT.node (hd.o_309 P) BT.nil BT.nil) BT.nil) (BT.node (hd.o_243 P) (BT.node (hd.o_373 P) BT.nil BT.nil) BT.nil)) (BT.node (hd.o_145 P) (BT.node (hd.o_211 P) (BT.node (hd.o_341 P) BT.nil BT.nil) BT.nil) (BT.node (hd.o_277 P) (BT.node (hd.o_405 P) BT.nil BT.nil) BT.nil))) (BT.node (hd.o_97 P) (BT.node (hd.o_129 P) (BT.node (hd.o_195 P) (BT.node (hd.o_325 P) BT.nil BT.nil) BT.nil) (BT.node (hd.o_259 P) (BT.node (hd.o_389 P) BT.nil BT.nil) BT.nil)) (BT.node (hd.o_163 P) (BT.node (hd.o_227 P) (BT.node (hd.o_357 P) BT.nil BT.nil) BT.nil) (BT.node (hd.o_293 P) (BT.node (hd.o_421 P) BT.nil BT.nil) BT.nil)))))) (BT.node (boot_o_6 P) (BT.node (boot_o_10 P) (BT.node (hd.o_55 P) (BT.node (hd.o_71 P) (BT.node (hd.o_103 P) (BT.node (hd.o_169 P) (BT.node (hd.o_299 P) BT.nil BT.nil) (BT.node (hd.o_427 P) BT.nil BT.nil)) (BT.node (hd.o_233 P) (BT.node (hd.o_363 P) BT.nil BT.nil) BT.nil)) (BT.node (hd.o_135 P) (BT.node (hd.o_201 P) (BT.node (hd.o_331 P) BT.nil BT.nil) BT.nil) (BT.node (hd.o_267 P) (BT.node (hd.o_395 P) BT.nil BT.nil) BT.nil))) (BT.node (hd.o_87 P) (BT.node (hd.o_119 P) (BT.node (hd.o_185 P) (BT.node (hd.o_315 P) BT.nil BT.nil) BT.nil) (BT.node (hd.o_249 P) (BT.node (hd.o_379 P) BT.nil BT.nil) BT.nil)) (BT.node (hd.o_153 P) (BT.node (hd.o_217 P) (BT.node (hd.o_347 P) BT.nil BT.nil) BT.nil) (BT.node (hd.o_283 P) (BT.node (hd.o_411 P) BT.nil BT.nil) BT.nil)))) (BT.node (hd.o_63 P) (BT.node (hd.o_79 P) (BT.node (hd.o_111 P) (BT.node (hd.o_177 P) (BT.node (hd.o_307 P) BT.nil BT.nil) BT.nil) (BT.node (hd.o_241 P) (BT.node (hd.o_371 P) BT.nil BT.nil) BT.nil)) (BT.node (hd.o_143 P) (BT.node (hd.o_209 P) (BT.node (hd.o_339 P) BT.nil BT.nil) BT.nil) (BT.node (hd.o_275 P) (BT.node (hd.o_403 P) BT.nil BT.nil) BT.nil))) (BT.node (hd.o_95 P) (BT.node (hd.o_127 P) (BT.node (hd.o_193 P) (BT.node (hd.o_323 P) BT.nil BT.nil) BT.nil) (BT.node (hd.o_257 P) (BT.node (hd.o_387 P) BT.nil BT.nil) BT.nil)) (BT.node (hd.o_161 P) (BT.node (hd.o_225 P) (BT.node (hd.o_355 P) BT.nil BT.nil) BT.nil) (BT.node (hd.o_291 P) (BT.node (hd.o_419 P) BT.nil BT.nil) BT.nil))))) (BT.node (hd.o_46 P) (BT.node (hd.o_59 P) (BT.node (hd.o_75 P) (BT.node (hd.o_107 P) (BT.node (hd.o_173 P) (BT.node (hd.o_303 P) BT.nil BT.nil) BT.nil) (BT.node (hd.o_237 P) (BT.node (hd.o_367 P) BT.nil BT.nil) BT.nil)) (BT.node (hd.o_139 P) (BT.node (hd.o_205 P) (BT.node (hd.o_335 P) BT.nil BT.nil) BT.nil) (BT.node (hd.o_271 P) (BT.node (hd.o_399 P) BT.nil BT.nil) BT.nil))) (BT.node (hd.o_91 P) (BT.node (hd.o_123 P) (BT.node (hd.o_189 P) (BT.node (hd.o_319 P) BT.nil BT.nil) BT.nil) (BT.node (hd.o_253 P) (BT.node (hd.o_383 P) BT.nil BT.nil) BT.nil)) (BT.node (hd.o_157 P) (BT.node (hd.o_221 P) (BT.node (hd.o_351 P) BT.nil BT.nil) BT.nil) (BT.node (hd.o_287 P) (BT.node (hd.o_415 P) BT.nil BT.nil) BT.nil)))) (BT.node (hd.o_67 P) (BT.node (hd.o_83 P) (BT.node (hd.o_115 P) (BT.node (hd.o_181 P) (BT.node (hd.o_311 P) BT.nil BT.nil) BT.nil) (BT.node (hd.o_245 P) (BT.node (hd.o_375 P) BT.nil BT.nil) BT.nil)) (BT.node (hd.o_149 P) (BT.node (hd.o_213 P) (BT.node (hd.o_343 P) BT.nil BT.nil) BT.nil) (BT.node (hd.o_279 P) (BT.node (hd.o_407 P) BT.nil BT.nil) BT.nil))) (BT.node (hd.o_99 P) (BT.node (hd.o_131 P) (BT.node (hd.o_197 P) (BT.node (hd.o_327 P) BT.nil BT.nil) BT.nil) (BT.node (hd.o_263 P) (BT.node (hd.o_391 P) BT.nil BT.nil) BT.nil)) (BT.node (hd.o_165 P) (BT.node (hd.o_229 P) (BT.node (hd.o_359 P) BT.nil BT.nil) BT.nil) (BT.node (hd.o_295 P) (BT.node (hd.o_423 P) BT.nil BT.nil) BT.nil)))))))
noncomputable def hd.o_429 : Params → Obj := fun P => Obj.mk (Value.type "dict") none (Data.dict #[DictEntry.mk (PyData.keyHash P (Str.ofString "__name__")) (Value.str (Str.ofString "__name__") 165) (Value.str (Str.ofString "law_xm0658_01") 626), DictEntry.mk (PyData.keyHash P (Str.ofString "__doc__")) (Value.str (Str.ofString "__doc__") 166) Value.none, DictEntry.mk (PyData.keyHash P (Str.ofString "__package__")) (Value.str (Str.ofString "__package__") 167) Value.none, DictEntry.mk (PyData.keyHash P (Str.ofString "__loader__")) (Value.str (Str.ofString "__loader__") 168) (Value.builtin "__main__.__loader__#opaque"), DictEntry.mk (PyData.keyHash P (Str.ofString "__spec__")) (Value.str (Str.ofString "__spec__") 169) Value.none, DictEntry.mk (PyData.keyHash P (Str.ofString "__annotations__")) (Value.str (Str.ofString "__annotations__") 170) (Value.ref 6), DictEntry.mk (PyData.keyHash P (Str.ofString "__builtins__")) (Value.str (Str.ofString "__builtins__") 171) (Value.ref 4), DictEntry.mk (PyData.keyHash P (Str.ofString "__file__")) (Value.str (Str.ofString "__file__") 173) (Value.str (Str.ofString "/claim/cut.py") 172), DictEntry.mk (PyData.keyHash P (Str.ofString "__cached__")) (Value.str (Str.ofString "__cached__") 174) Value.none, DictEntry.mk (PyData.keyHash P (Str.ofString "_wall")) (Value.str (Str.ofString "_wall") 193) (Value.ref 21), DictEntry.mk (PyData.keyHash P (Str.ofString "MarkupError")) (Value.str (Str.ofString "MarkupError") 224) (Value.ref 38), DictEntry.mk (PyData.keyHash P (Str.ofString "PathFault")) (Value.str (Str.ofString "PathFault") 240) (Value.ref 51), DictEntry.mk (PyData.keyHash P (Str.ofString "Literal")) (Value.str (Str.ofString "Literal") 278) (Value.ref 77), DictEntry.mk (PyData.keyHash P (Str.ofString "NumberNode")) (Value.str (Str.ofString "NumberNode") 314) (Value.ref 105), DictEntry.mk (PyData.keyHash P (Str.ofString "VariableNode")) (Value.str (Str.ofString "VariableNode") 350) (Value.ref 133), DictEntry.mk (PyData.keyHash P (Str.ofString "Call")) (Value.str (Str.ofString "Call") 388) (Value.ref 161), DictEntry.mk (PyData.keyHash P (Str.ofString "Binary")) (Value.str (Str.ofString "Binary") 428) (Value.ref 189), DictEntry.mk (PyData.keyHash P (Str.ofString "Negated")) (Value.str (Str.ofString "Negated") 464) (Value.ref 217), DictEntry.mk (PyData.keyHash P (Str.ofString "Filter")) (Value.str (Str.ofString "Filter") 502) (Value.ref 245), DictEntry.mk (PyData.keyHash P (Str.ofString "Path")) (Value.str (Str.ofString "Path") 540) (Value.ref 273), DictEntry.mk (PyData.keyHash P (Str.ofString "Step")) (Value.str (Str.ofString "Step") 580) (Value.ref 301), DictEntry.mk (PyData.keyHash P (Str.ofString "UNARY_LEVEL")) (Value.str (Str.ofString "UNARY_LEVEL") 584) (Value.int 7 583), DictEntry.mk (PyData.keyHash P (Str.ofString "UNION_LEVEL")) (Value.str (Str.ofString "UNION_LEVEL") 586) (Value.int 8 585), DictEntry.mk (PyData.keyHash P (Str.ofString "PATH_LEVEL")) (Value.str (Str.ofString "PATH_LEVEL") 588) (Value.int 9 587), DictEntry.mk (PyData.keyHash P (Str.ofString "FILTER_LEVEL")) (Value.str (Str.ofString "FILTER_LEVEL") 590) (Value.int 10 589), DictEntry.mk (PyData.keyHash P (Str.ofString "PRIMARY_LEVEL")) (Value.str (Str.ofString "PRIMARY_LEVEL") 592) (Value.int 11 591), DictEntry.mk (PyData.keyHash P (Str.ofString "level_of")) (Value.str (Str.ofString "level_of") 600) (Value.ref 312), DictEntry.mk (PyData.keyHash P (Str.ofString "quoted")) (Value.str (Str.ofString "quoted") 607) (Value.ref 319), DictEntry.mk (PyData.keyHash P (Str.ofString "decimal_text")) (Value.str (Str.ofString "decimal_text") 618) (Value.ref 326), DictEntry.mk (PyData.keyHash P (Str.ofString "test_text")) (Value.str (Str.ofString "test_text") 625) (Value.ref 333), DictEntry.mk (PyData.keyHash P (Str.ofString "_law_pool")) (Value.str (Str.ofString "_law_pool") 636) (Value.ref 340), DictEntry.mk (PyData.keyHash P (Str.ofString "_law_take")) (Value.str (Str.ofString "_law_take") 645) (Value.ref 347), DictEntry.mk (PyData.keyHash P (Str.ofString "_law_one")) (Value.str (Str.ofString "_law_one") 653) (Value.ref 354), DictEntry.mk (PyData.keyHash P (Str.ofString "_law_weight")) (Value.str (Str.ofString "_law_weight") 667) (Value.ref 361), DictEntry.mk (PyData.keyHash P (Str.ofString "_law_lowest")) (Value.str (Str.ofString "_law_lowest") 677) (Value.ref 368), DictEntry.mk (PyData.keyHash P (Str.ofString "_law_written")) (Value.str (Str.ofString "_law_written") 684) (Value.ref 375), DictEntry.mk (PyData.keyHash P (Str.ofString "_law_decimal_right")) (Value.str (Str.ofString "_law_decimal_right") 690) (Value.ref 380), DictEntry.mk (PyData.keyHash P (Str.ofString "_law_far_right")) (Value.str (Str.ofString "_law_far_right") 700) (Value.ref 387), DictEntry.mk (PyData.keyHash P (Str.ofString "_law_told")) (Value.str (Str.ofString "_law_told") 707) (Value.ref 394), DictEntry.mk (PyData.keyHash P (Str.ofString "_law_test")) (Value.str (Str.ofString "_law_test") 717) (Value.ref 401), DictEntry.mk (PyData.keyHash P (Str.ofString "law")) (Value.str (Str.ofString "law") 730) (Value.ref 408)] 41) #[]
noncomputable def hd.o_430 : Params → Obj := fun _ => Obj.mk Value.none none (Data.fields #[Value.int 1 0, Value.int 0 0, Value.ref 20, Value.int 5 0, Value.int 0 0, Value.ref 27, Value.int 10 0, Value.int 0 0, Value.ref 47, Value.int 13 0, Value.int 0 0, Value.ref 59, Value.int 20 0, Value.int 0 0, Value.ref 87, Value.int 27 0, Value.int 0 0, Value.ref 115, Value.int 34 0, Value.int 0 0, Value.ref 143, Value.int 42 0, Value.int 0 0, Value.ref 171, Value.int 51 0, Value.int 0 0, Value.ref 199, Value.int 58 0, Value.int 0 0, Value.ref 227, Value.int 66 0, Value.int 0 0, Value.ref 255, Value.int 74 0, Value.int 0 0, Value.ref 283, Value.int 89 0, Value.int 0 0, Value.ref 311, Value.int 98 0, Value.int 0 0, Value.ref 318, Value.int 104 0, Value.int 0 0, Value.ref 325, Value.int 118 0, Value.int 0 0, Value.ref 332, Value.int 129 0, Value.int 0 0, Value.ref 339, Value.int 133 0, Value.int 0 0, Value.ref 346, Value.int 140 0, Value.int 0 0, Value.ref 353, Value.int 142 0, Value.int 0 0, Value.ref 360, Value.int 162 0, Value.int 0 0, Value.ref 367, Value.int 167 0, Value.int 0 0, Value.ref 374, Value.int 172 0, Value.int 0 0, Value.ref 379, Value.int 183 0, Value.int 0 0, Value.ref 386, Value.int 187 0, Value.int 0 0, Value.ref 393, Value.int 192 0, Value.int 0 0, Value.ref 400, Value.int 196 0, Value.int 0 0, Value.ref 407]) #[]
noncomputable def hd.o_431 : Params → Obj := fun _ => Obj.mk (Value.type "tuple") none (Data.seq #[] 0) #[]
noncomputable def hd.o_432 : Params → Obj := fun _ => Obj.mk Value.none none (Data.fields #[]) #[]
noncomputable def hd.o_433 : Params → Obj := fun _ => Obj.mk (Value.type "tuple") none (Data.seq #[Value.str (Str.ofString "test") 704] 0) #[]
noncomputable def hd.o_434 : Params → Obj := fun _ => Obj.mk (Value.type "tuple") none (Data.seq #[] 0) #[]
noncomputable def hd.o_435 : Params → Obj := fun _ => pick3 (x := fnParts pw.main.body [33]) rfl fun p b s => Obj.mk Value.none none (Data.func (FuncData.mk (Str.ofString "_law_told") (Str.ofString "_law_told") p (FuncBody.stmts b) s 0 [] Value.none Value.none Value.none Value.none none Value.none Value.none 0)) #[]
noncomputable def hd.o_436 : Params → Obj := fun _ => Obj.mk (Value.type "code") none (Data.fields #[Value.str (Str.ofString "_law_told") 701, Value.str (Str.ofString "_law_told") 702, Value.str (Str.ofString "/claim/cut.py") 703, Value.int 187 0, Value.int 1 0, Value.int 0 0, Value.int 0 0, Value.int 3 0, Value.ref 388, Value.bool true, Value.int 181 0, Value.ref 389, Value.none, Value.ref 390, Value.ref 391, Value.ref 392, Value.int 705 0, Value.int 187 0, Value.str (Str.ofString "/claim/cut.py") 706]) #[]
noncomputable def hd.o_437 : Params → Obj := fun _ => pick3 (x := fnParts pw.main.body [33]) rfl fun p b s => Obj.mk (Value.type "function") none (Data.func (FuncData.mk (Str.ofString "_law_told") (Str.ofString "_law_told") p (FuncBody.stmts b) s 3 [] Value.none Value.none Value.none (Value.str (Str.ofString "law_xm0658_01") 626) none (Value.ref 393) Value.none 0)) #[]
noncomputable def hd.o_438 : Params → Obj := fun _ => Obj.mk (Value.type "tuple") none (Data.seq #[] 0) #[]
noncomputable def hd.o_439 : Params → Obj := fun _ => Obj.mk Value.none none (Data.fields #[]) #[]
noncomputable def hd.o_440 : Params → Obj := fun _ => Obj.mk (Value.type "tuple") none (Data.seq #[Value.str (Str.ofString "source") 711, Value.str (Str.ofString "name") 712, Value.str (Str.ofString "target") 713, Value.str (Str.ofString "other") 714] 0) #[]
noncomputable def hd.o_441 : Params → Obj := fun _ => Obj.mk (Value.type "tuple") none (Data.seq #[] 0) #[]
noncomputable def hd.o_442 : Params → Obj := fun _ => pick3 (x := fnParts pw.main.body [34]) rfl fun p b s => Obj.mk Value.none none (Data.func (FuncData.mk (Str.ofString "_law_test") (Str.ofString "_law_test") p (FuncBody.stmts b) s 0 [] Value.none Value.none Value.none Value.none none Value.none Value.none 0)) #[]
noncomputable def hd.o_443 : Params → Obj := fun _ => Obj.mk (Value.type "code") none (Data.fields #[Value.str (Str.ofString "_law_test") 708, Value.str (Str.ofString "_law_test") 709, Value.str (Str.ofString "/claim/cut.py") 710, Value.int 192 0, Value.int 1 0, Value.int 0 0, Value.int 0 0, Value.int 3 0, Value.ref 395, Value.bool true, Value.int 181 0, Value.ref 396, Value.none, Value.ref 397, Value.ref 398, Value.ref 399, Value.int 715 0, Value.int 192 0, Value.str (Str.ofString "/claim/cut.py") 716]) #[]
noncomputable def hd.o_444 : Params → Obj := fun _ => pick3 (x := fnParts pw.main.body [34]) rfl fun p b s => Obj.mk (Value.type "function") none (Data.func (FuncData.mk (Str.ofString "_law_test") (Str.ofString "_law_test") p (FuncBody.stmts b) s 3 [] Value.none Value.none Value.none (Value.str (Str.ofString "law_xm0658_01") 626) none (Value.ref 400) Value.none 0)) #[]
noncomputable def hd.o_445 : Params → Obj := fun _ => Obj.mk (Value.type "tuple") none (Data.seq #[] 0) #[]
noncomputable def hd.o_446 : Params → Obj := fun _ => Obj.mk Value.none none (Data.fields #[]) #[]
noncomputable def hd.o_447 : Params → Obj := fun _ => Obj.mk (Value.type "tuple") none (Data.seq #[Value.str (Str.ofString "script") 721, Value.str (Str.ofString "source") 722, Value.str (Str.ofString "turn") 723, Value.str (Str.ofString "expr") 724, Value.str (Str.ofString "weight") 725, Value.str (Str.ofString "test") 726, Value.str (Str.ofString "due") 727] 0) #[]
noncomputable def hd.o_448 : Params → Obj := fun _ => Obj.mk (Value.type "tuple") none (Data.seq #[] 0) #[]
noncomputable def hd.o_449 : Params → Obj := fun _ => pick3 (x := fnParts pw.main.body [35]) rfl fun p b s => Obj.mk Value.none none (Data.func (FuncData.mk (Str.ofString "law") (Str.ofString "law") p (FuncBody.stmts b) s 0 [] Value.none Value.none Value.none Value.none none Value.none Value.none 0)) #[]
noncomputable def hd.o_450 : Params → Obj := fun _ => Obj.mk (Value.type "code") none (Data.fields #[Value.str (Str.ofString "law") 718, Value.str (Str.ofString "law") 719, Value.str (Str.ofString "/claim/cut.py") 720, Value.int 196 0, Value.int 1 0, Value.int 0 0, Value.int 0 0, Value.int 3 0, Value.ref 402, Value.bool true, Value.int 181 0, Value.ref 403, Value.none, Value.ref 404, Value.ref 405, Value.ref 406, Value.int 728 0, Value.int 196 0, Value.str (Str.ofString "/claim/cut.py") 729]) #[]
noncomputable def hd.o_451 : Params → Obj := fun _ => pick3 (x := fnParts pw.main.body [35]) rfl fun p b s => Obj.mk (Value.type "function") none (Data.func (FuncData.mk (Str.ofString "law") (Str.ofString "law") p (FuncBody.stmts b) s 3 [] Value.none Value.none Value.none (Value.str (Str.ofString "law_xm0658_01") 626) none (Value.ref 407) Value.none 0)) #[]
noncomputable def hd.tree_451 : Params → BT := fun P => BT.node (boot_o_0 P) (BT.node (boot_o_1 P) (BT.node (hd.o_429 P) (BT.node (boot_o_7 P) (BT.node (hd.o_52 P) (BT.node (hd.o_68 P) (BT.node (hd.o_100 P) (BT.node (hd.o_166 P) (BT.node (hd.o_296 P) BT.nil BT.nil) (BT.node (hd.o_424 P) BT.nil BT.nil)) (BT.node (hd.o_230 P) (BT.node (hd.o_360 P) BT.nil BT.nil) BT.nil)) (BT.node (hd.o_132 P) (BT.node (hd.o_198 P) (BT.node (hd.o_328 P) BT.nil BT.nil) BT.nil) (BT.node (hd.o_264 P) (BT.node (hd.o_392 P) BT.nil BT.nil) BT.nil))) (BT.node (hd.o_84 P) (BT.node (hd.o_116 P) (BT.node (hd.o_182 P) (BT.node (hd.o_312 P) BT.nil BT.nil) (BT.node (hd.o_442 P) BT.nil BT.nil)) (BT.node (hd.o_246 P) (BT.node (hd.o_376 P) BT.nil BT.nil) BT.nil)) (BT.node (hd.o_150 P) (BT.node (hd.o_214 P) (BT.node (hd.o_344 P) BT.nil BT.nil) BT.nil) (BT.node (hd.o_280 P) (BT.node (hd.o_408 P) BT.nil BT.nil) BT.nil)))) (BT.node (hd.o_60 P) (BT.node (hd.o_76 P) (BT.node (hd.o_108 P) (BT.node (hd.o_174 P) (BT.node (hd.o_304 P) BT.nil BT.nil) (BT.node (hd.o_434 P) BT.nil BT.nil)) (BT.node (hd.o_238 P) (BT.node (hd.o_368 P) BT.nil BT.nil) BT.nil)) (BT.node (hd.o_140 P) (BT.node (hd.o_206 P) (BT.node (hd.o_336 P) BT.nil BT.nil) BT.nil) (BT.node (hd.o_272 P) (BT.node (hd.o_400 P) BT.nil BT.nil) BT.nil))) (BT.node (hd.o_92 P) (BT.node (hd.o_124 P) (BT.node (hd.o_190 P) (BT.node (hd.o_320 P) BT.nil BT.nil) (BT.node (hd.o_450 P) BT.nil BT.nil)) (BT.node (hd.o_254 P) (BT.node (hd.o_384 P) BT.nil BT.nil) BT.nil)) (BT.node (hd.o_158 P) (BT.node (hd.o_222 P) (BT.node (hd.o_352 P) BT.nil BT.nil) BT.nil) (BT.node (hd.o_288 P) (BT.node (hd.o_416 P) BT.nil BT.nil) BT.nil))))) (BT.node (hd.o_43 P) (BT.node (hd.o_56 P) (BT.node (hd.o_72 P) (BT.node (hd.o_104 P) (BT.node (hd.o_170 P) (BT.node (hd.o_300 P) BT.nil BT.nil) (BT.node (hd.o_428 P) BT.nil BT.nil)) (BT.node (hd.o_234 P) (BT.node (hd.o_364 P) BT.nil BT.nil) BT.nil)) (BT.node (hd.o_136 P) (BT.node (hd.o_202 P) (BT.node (hd.o_332 P) BT.nil BT.nil) BT.nil) (BT.node (hd.o_268 P) (BT.node (hd.o_396 P) BT.nil BT.nil) BT.nil))) (BT.node (hd.o_88 P) (BT.node (hd.o_120 P) (BT.node (hd.o_186 P) (BT.node (hd.o_316 P) BT.nil BT.nil) (BT.node (hd.o_446 P) BT.nil BT.nil)) (BT.node (hd.o_250 P) (BT.node (hd.o_380 P) BT.nil BT.nil) BT.nil)) (BT.node (hd.o_154 P) (BT.node (hd.o_218 P) (BT.node (hd.o_348 P) BT.nil BT.nil) BT.nil) (BT.node (hd.o_284 P) (BT.node (hd.o_412 P) BT.nil BT.nil) BT.nil)))) (BT.node (hd.o_64 P) (BT.node (hd.o_80 P) (BT.node (hd.o_112 P) (BT.node (hd.o_178 P) (BT.node (hd.o_308 P) BT.nil BT.nil) (BT.node (hd.o_438 P) BT.nil BT.nil)) (BT.node (hd.o_242 P) (BT.node (hd.o_372 P) BT.nil BT.nil) BT.nil)) (BT.node (hd.o_144 P) (BT.node (hd.o_210 P) (BT.node (hd.o_340 P) BT.nil BT.nil) BT.nil) (BT.node (hd.o_276 P) (BT.node (hd.o_404 P) BT.nil BT.nil) BT.nil))) (BT.node (hd.o_96 P) (BT.node (hd.o_128 P) (BT.node (hd.o_194 P) (BT.node (hd.o_324 P) BT.nil BT.nil) BT.nil) (BT.node (hd.o_258 P) (BT.node (hd.o_388 P) BT.nil BT.nil) BT.nil)) (BT.node (hd.o_162 P) (BT.node (hd.o_226 P) (BT.node (hd.o_356 P) BT.nil BT.nil) BT.nil) (BT.node (hd.o_292 P) (BT.node (hd.o_420 P) BT.nil BT.nil) BT.nil)))))) (BT.node (boot_o_5 P) (BT.node (boot_o_9 P) (BT.node (hd.o_54 P) (BT.node (hd.o_70 P) (BT.node (hd.o_102 P) (BT.node (hd.o_168 P) (BT.node (hd.o_298 P) BT.nil BT.nil) (BT.node (hd.o_426 P) BT.nil BT.nil)) (BT.node (hd.o_232 P) (BT.node (hd.o_362 P) BT.nil BT.nil) BT.nil)) (BT.node (hd.o_134 P) (BT.node (hd.o_200 P) (BT.node (hd.o_330 P) BT.nil BT.nil) BT.nil) (BT.node (hd.o_266 P) (BT.node (hd.o_394 P) BT.nil BT.nil) BT.nil))) (BT.node (hd.o_86 P) (BT.node (hd.o_118 P) (BT.node (hd.o_184 P) (BT.node (hd.o_314 P) BT.nil BT.nil) (BT.node (hd.o_444 P) BT.nil BT.nil)) (BT.node (hd.o_248 P) (BT.node (hd.o_378 P) BT.nil BT.nil) BT.nil)) (BT.node (hd.o_152 P) (BT.node (hd.o_216 P) (BT.node (hd.o_346 P) BT.nil BT.nil) BT.nil) (BT.node (hd.o_282 P) (BT.node (hd.o_410 P) BT.nil BT.nil) BT.nil)))) (BT.node (hd.o_62 P) (BT.node (hd.o_78 P) (BT.node (hd.o_110 P) (BT.node (hd.o_176 P) (BT.node (hd.o_306 P) BT.nil BT.nil) (BT.node (hd.o_436 P) BT.nil BT.nil)) (BT.node (hd.o_240 P) (BT.node (hd.o_370 P) BT.nil BT.nil) BT.nil)) (BT.node (hd.o_142 P) (BT.node (hd.o_208 P) (BT.node (hd.o_338 P) BT.nil BT.nil) BT.nil) (BT.node (hd.o_274 P) (BT.node (hd.o_402 P) BT.nil BT.nil) BT.nil))) (BT.node (hd.o_94 P) (BT.node (hd.o_126 P) (BT.node (hd.o_192 P) (BT.node (hd.o_322 P) BT.nil BT.nil) BT.nil) (BT.node (hd.o_256 P) (BT.node (hd.o_386 P) BT.nil BT.nil) BT.nil)) (BT.node (hd.o_160 P) (BT.node (hd.o_224 P) (BT.node (hd.o_354 P) BT.nil BT.nil) BT.nil) (BT.node (hd.o_290 P) (BT.node (hd.o_418 P) BT.nil BT.nil) BT.nil))))) (BT.node (hd.o_45 P) (BT.node (hd.o_58 P) (BT.node (hd.o_74 P) (BT.node (hd.o_106 P) (BT.node (hd.o_172 P) (BT.node (hd.o_302 P) BT.nil BT.nil) (BT.node (hd.o_432 P) BT.nil BT.nil)) (BT.node (hd.o_236 P) (BT.node (hd.o_366 P) BT.nil BT.nil) BT.nil)) (BT.node (hd.o_138 P) (BT.node (hd.o_204 P) (BT.node (hd.o_334 P) BT.nil BT.nil) BT.nil) (BT.node (hd.o_270 P) (BT.node (hd.o_398 P) BT.nil BT.nil) BT.nil))) (BT.node (hd.o_90 P) (BT.node (hd.o_122 P) (BT.node (hd.o_188 P) (BT.node (hd.o_318 P) BT.nil BT.nil) (BT.node (hd.o_448 P) BT.nil BT.nil)) (BT.node (hd.o_252 P) (BT.node (hd.o_382 P) BT.nil BT.nil) BT.nil)) (BT.node (hd.o_156 P) (BT.node (hd.o_220 P) (BT.node (hd.o_350 P) BT.nil BT.nil) BT.nil) (BT.node (hd.o_286 P) (BT.node (hd.o_414 P) BT.nil BT.nil) BT.nil)))) (BT.node (hd.o_66 P) (BT.node (hd.o_82 P) (BT.node (hd.o_114 P) (BT.node (hd.o_180 P) (BT.node (hd.o_310 P) BT.nil BT.nil) (BT.node (hd.o_440 P) BT.nil BT.nil)) (BT.node (hd.o_244 P) (BT.node (hd.o_374 P) BT.nil BT.nil) BT.nil)) (BT.node (hd.o_146 P) (BT.node (hd.o_212 P) (BT.node (hd.o_342 P) BT.nil BT.nil) BT.nil) (BT.node (hd.o_278 P) (BT.node (hd.o_406 P) BT.nil BT.nil) BT.nil))) (BT.node (hd.o_98 P) (BT.node (hd.o_130 P) (BT.node (hd.o_196 P) (BT.node (hd.o_326 P) BT.nil BT.nil) BT.nil) (BT.node (hd.o_260 P) (BT.node (hd.o_390 P) BT.nil BT.nil) BT.nil)) (BT.node (hd.o_164 P) (BT.node (hd.o_228 P) (BT.node (hd.o_358 P) BT.nil BT.nil) BT.nil) (BT.node (hd.o_294 P) (BT.node (hd.o_422 P) BT.nil BT.nil) BT.nil))))))) (BT.node (hd.o_49 P) (BT.node (boot_o_4 P) (BT.node (boot_o_8 P) (BT.node (hd.o_53 P) (BT.node (hd.o_69 P) (BT.node (hd.o_101 P) (BT.node (hd.o_167 P) (BT.node (hd.o_297 P) BT.nil BT.nil) (BT.node (hd.o_425 P) BT.nil BT.nil)) (BT.node (hd.o_231 P) (BT.node (hd.o_361 P) BT.nil BT.nil) BT.nil)) (BT.node (hd.o_133 P) (BT.node (hd.o_199 P) (BT.node (hd.o_329 P) BT.nil BT.nil) BT.nil) (BT.node (hd.o_265 P) (BT.node (hd.o_393 P) BT.nil BT.nil) BT.nil))) (BT.node (hd.o_85 P) (BT.node (hd.o_117 P) (BT.node (hd.o_183 P) (BT.node (hd.o_313 P) BT.nil BT.nil) (BT.node (hd.o_443 P) BT.nil BT.nil)) (BT.node (hd.o_247 P) (BT.node (hd.o_377 P) BT.nil BT.nil) BT.nil)) (BT.node (hd.o_151 P) (BT.node (hd.o_215 P) (BT.node (hd.o_345 P) BT.nil BT.nil) BT.nil) (BT.node (hd.o_281 P) (BT.node (hd.o_409 P) BT.nil BT.nil) BT.nil)))) (BT.node (hd.o_61 P) (BT.node (hd.o_77 P) (BT.node (hd.o_109 P) (BT.node (hd.o_175 P) (BT.node (hd.o_305 P) BT.nil BT.nil) (BT.node (hd.o_435 P) BT.nil BT.nil)) (BT.node (hd.o_239 P) (BT.node (hd.o_369 P) BT.nil BT.nil) BT.nil)) (BT.node (hd.o_141 P) (BT.node (hd.o_207 P) (BT.node (hd.o_337 P) BT.nil BT.nil) BT.nil) (BT.node (hd.o_273 P) (BT.node (hd.o_401 P) BT.nil BT.nil) BT.nil))) (BT.node (hd.o_93 P) (BT.node (hd.o_125 P) (BT.node (hd.o_191 P) (BT.node (hd.o_321 P) BT.nil BT.nil) (BT.node (hd.o_451 P) BT.nil BT.nil)) (BT.node (hd.o_255 P) (BT.node (hd.o_385 P) BT.nil BT.nil) BT.nil)) (BT.node (hd.o_159 P) (BT.node (hd.o_223 P) (BT.node (hd.o_353 P) BT.nil BT.nil) BT.nil) (BT.node (hd.o_289 P) (BT.node (hd.o_417 P) BT.nil BT.nil) BT.nil))))) (BT.node (hd.o_430 P) (BT.node (hd.o_57 P) (BT.node (hd.o_73 P) (BT.node (hd.o_105 P) (BT.node (hd.o_171 P) (BT.node (hd.o_301 P) BT.nil BT.nil) (BT.node (hd.o_431 P) BT.nil BT.nil)) (BT.node (hd.o_235 P) (BT.node (hd.o_365 P) BT.nil BT.nil) BT.nil)) (BT.node (hd.o_137 P) (BT.node (hd.o_203 P) (BT.node (hd.o_333 P) BT.nil BT.nil) BT.nil) (BT.node (hd.o_269 P) (BT.node (hd.o_397 P) BT.nil BT.nil) BT.nil))) (BT.node (hd.o_89 P) (BT.node (hd.o_121 P) (BT.node (hd.o_187 P) (BT.node (hd.o_317 P) BT.nil BT.nil) (BT.node (hd.o_447 P) BT.nil BT.nil)) (BT.node (hd.o_251 P) (BT.node (hd.o_381 P) BT.nil BT.nil) BT.nil)) (BT.node (hd.o_155 P) (BT.node (hd.o_219 P) (BT.node (hd.o_349 P) BT.nil BT.nil) BT.nil) (BT.node (hd.o_285 P) (BT.node (hd.o_413 P) BT.nil BT.nil) BT.nil)))) (BT.node (hd.o_65 P) (BT.node (hd.o_81 P) (BT.node (hd.o_113 P) (BT.node (hd.o_179 P) (BT.node (hd.o_309 P) BT.nil BT.nil) (BT.node (hd.o_439 P) BT.nil BT.nil)) (BT.node (hd.o_243 P) (BT.node (hd.o_373 P) BT.nil BT.nil) BT.nil)) (BT.node (hd.o_145 P) (BT.node (hd.o_211 P) (BT.node (hd.o_341 P) BT.nil BT.nil) BT.nil) (BT.node (hd.o_277 P) (BT.node (hd.o_405 P) BT.nil BT.nil) BT.nil))) (BT.node (hd.o_97 P) (BT.node (hd.o_129 P) (BT.node (hd.o_195 P) (BT.node (hd.o_325 P) BT.nil BT.nil) BT.nil) (BT.node (hd.o_259 P) (BT.node (hd.o_389 P) BT.nil BT.nil) BT.nil)) (BT.node (hd.o_163 P) (BT.node (hd.o_227 P) (BT.node (hd.o_357 P) BT.nil BT.nil) BT.nil) (BT.node (hd.o_293 P) (BT.node (hd.o_421 P) BT.nil BT.nil) BT.nil)))))) (BT.node (boot_o_6 P) (BT.node (boot_o_10 P) (BT.node (hd.o_55 P) (BT.node (hd.o_71 P) (BT.node (hd.o_103 P) (BT.node (hd.o_169 P) (BT.node (hd.o_299 P) BT.nil BT.nil) (BT.node (hd.o_427 P) BT.nil BT.nil)) (BT.node (hd.o_233 P) (BT.node (hd.o_363 P) BT.nil BT.nil) BT.nil)) (BT.node (hd.o_135 P) (BT.node (hd.o_201 P) (BT.node (hd.o_331 P) BT.nil BT.nil) BT.nil) (BT.node (hd.o_267 P) (BT.node (hd.o_395 P) BT.nil BT.nil) BT.nil))) (BT.node (hd.o_87 P) (BT.node (hd.o_119 P) (BT.node (hd.o_185 P) (BT.node (hd.o_315 P) BT.nil BT.nil) (BT.node (hd.o_445 P) BT.nil BT.nil)) (BT.node (hd.o_249 P) (BT.node (hd.o_379 P) BT.nil BT.nil) BT.nil)) (BT.node (hd.o_153 P) (BT.node (hd.o_217 P) (BT.node (hd.o_347 P) BT.nil BT.nil) BT.nil) (BT.node (hd.o_283 P) (BT.node (hd.o_411 P) BT.nil BT.nil) BT.nil)))) (BT.node (hd.o_63 P) (BT.node (hd.o_79 P) (BT.node (hd.o_111 P) (BT.node (hd.o_177 P) (BT.node (hd.o_307 P) BT.nil BT.nil) (BT.node (hd.o_437 P) BT.nil BT.nil)) (BT.node (hd.o_241 P) (BT.node (hd.o_371 P) BT.nil BT.nil) BT.nil)) (BT.node (hd.o_143 P) (BT.node (hd.o_209 P) (BT.node (hd.o_339 P) BT.nil BT.nil) BT.nil) (BT.node (hd.o_275 P) (BT.node (hd.o_403 P) BT.nil BT.nil) BT.nil))) (BT.node (hd.o_95 P) (BT.node (hd.o_127 P) (BT.node (hd.o_193 P) (BT.node (hd.o_323 P) BT.nil BT.nil) BT.nil) (BT.node (hd.o_257 P) (BT.node (hd.o_387 P) BT.nil BT.nil) BT.nil)) (BT.node (hd.o_161 P) (BT.node (hd.o_225 P) (BT.node (hd.o_355 P) BT.nil BT.nil) BT.nil) (BT.node (hd.o_291 P) (BT.node (hd.o_419 P) BT.nil BT.nil) BT.nil))))) (BT.node (hd.o_46 P) (BT.node (hd.o_59 P) (BT.node (hd.o_75 P) (BT.node (hd.o_107 P) (BT.node (hd.o_173 P) (BT.node (hd.o_303 P) BT.nil BT.nil) (BT.node (hd.o_433 P) BT.nil BT.nil)) (BT.node (hd.o_237 P) (BT.node (hd.o_367 P) BT.nil BT.nil) BT.nil)) (BT.node (hd.o_139 P) (BT.node (hd.o_205 P) (BT.node (hd.o_335 P) BT.nil BT.nil) BT.nil) (BT.node (hd.o_271 P) (BT.node (hd.o_399 P) BT.nil BT.nil) BT.nil))) (BT.node (hd.o_91 P) (BT.node (hd.o_123 P) (BT.node (hd.o_189 P) (BT.node (hd.o_319 P) BT.nil BT.nil) (BT.node (hd.o_449 P) BT.nil BT.nil)) (BT.node (hd.o_253 P) (BT.node (hd.o_383 P) BT.nil BT.nil) BT.nil)) (BT.node (hd.o_157 P) (BT.node (hd.o_221 P) (BT.node (hd.o_351 P) BT.nil BT.nil) BT.nil) (BT.node (hd.o_287 P) (BT.node (hd.o_415 P) BT.nil BT.nil) BT.nil)))) (BT.node (hd.o_67 P) (BT.node (hd.o_83 P) (BT.node (hd.o_115 P) (BT.node (hd.o_181 P) (BT.node (hd.o_311 P) BT.nil BT.nil) (BT.node (hd.o_441 P) BT.nil BT.nil)) (BT.node (hd.o_245 P) (BT.node (hd.o_375 P) BT.nil BT.nil) BT.nil)) (BT.node (hd.o_149 P) (BT.node (hd.o_213 P) (BT.node (hd.o_343 P) BT.nil BT.nil) BT.nil) (BT.node (hd.o_279 P) (BT.node (hd.o_407 P) BT.nil BT.nil) BT.nil))) (BT.node (hd.o_99 P) (BT.node (hd.o_131 P) (BT.node (hd.o_197 P) (BT.node (hd.o_327 P) BT.nil BT.nil) BT.nil) (BT.node (hd.o_263 P) (BT.node (hd.o_391 P) BT.nil BT.nil) BT.nil)) (BT.node (hd.o_165 P) (BT.node (hd.o_229 P) (BT.node (hd.o_359 P) BT.nil BT.nil) BT.nil) (BT.node (hd.o_295 P) (BT.node (hd.o_423 P) BT.nil BT.nil) BT.nil)))))))
noncomputable def hd.heap_452 : Params → Heap := fun P => Heap.mk (Array.mk [boot_o_0 P, boot_o_1 P, hd.o_49 P, hd.o_429 P, boot_o_4 P, boot_o_5 P, boot_o_6 P, boot_o_7 P, boot_o_8 P, boot_o_9 P, boot_o_10 P, hd.o_43 P, hd.o_430 P, hd.o_45 P, hd.o_46 P, hd.o_52 P, hd.o_53 P, hd.o_54 P, hd.o_55 P, hd.o_56 P, hd.o_57 P, hd.o_58 P, hd.o_59 P, hd.o_60 P, hd.o_61 P, hd.o_62 P, hd.o_63 P, hd.o_64 P, hd.o_65 P, hd.o_66 P, hd.o_67 P, hd.o_68 P, hd.o_69 P, hd.o_70 P, hd.o_71 P, hd.o_72 P, hd.o_73 P, hd.o_74 P, hd.o_75 P, hd.o_76 P, hd.o_77 P, hd.o_78 P, hd.o_79 P, hd.o_80 P, hd.o_81 P, hd.o_82 P, hd.o_83 P, hd.o_84 P, hd.o_85 P, hd.o_86 P, hd.o_87 P, hd.o_88 P, hd.o_89 P, hd.o_90 P, hd.o_91 P, hd.o_92 P, hd.o_93 P, hd.o_94 P, hd.o_95 P, hd.o_96 P, hd.o_97 P, hd.o_98 P, hd.o_99 P, hd.o_100 P, hd.o_101 P, hd.o_102 P, hd.o_103 P, hd.o_104 P, hd.o_105 P, hd.o_106 P, hd.o_107 P, hd.o_108 P, hd.o_109 P, hd.o_110 P, hd.o_111 P, hd.o_112 P, hd.o_113 P, hd.o_114 P, hd.o_115 P, hd.o_116 P, hd.o_117 P, hd.o_118 P, hd.o_119 P, hd.o_120 P, hd.o_121 P, hd.o_122 P, hd.o_123 P, hd.o_124 P, hd.o_125 P, hd.o_126 P, hd.o_127 P, hd.o_128 P, hd.o_129 P, hd.o_130 P, hd.o_131 P, hd.o_132 P, hd.o_133 P, hd.o_134 P, hd.o_135 P, hd.o_136 P, hd.o_137 P, hd.o_138 P, hd.o_139 P, hd.o_140 P, hd.o_141 P, hd.o_142 P, hd.o_143 P, hd.o_144 P, hd.o_145 P, hd.o_146 P, hd.o_149 P, hd.o_150 P, hd.o_151 P, hd.o_152 P, hd.o_153 P, hd.o_154 P, hd.o_155 P, hd.o_156 P, hd.o_157 P, hd.o_158 P, hd.o_159 P, hd.o_160 P, hd.o_161 P, hd.o_162 P, hd.o_163 P, hd.o_164 P, hd.o_165 P, hd.o_166 P, hd.o_167 P, hd.o_168 P, hd.o_169 P, hd.o_170 P, hd.o_171 P, hd.o_172 P, hd.o_173 P, hd.o_174 P, hd.o_175 P, hd.o_176 P, hd.o_177 P, hd.o_178 P, hd.o_179 P, hd.o_180 P, hd.o_181 P, hd.o_182 P, hd.o_183 P, hd.o_184 P, hd.o_185 P, hd.o_186 P, hd.o_187 P, hd.o_188 P, hd.o_189 P, hd.o_190 P, hd.o_191 P, hd.o_192 P, hd.o_193 P, hd.o_194 P, hd.o_195 P, hd.o_196 P, hd.o_197 P, hd.o_198 P, hd.o_199 P, hd.o_200 P, hd.o_201 P, hd.o_202 P, hd.o_203 P, hd.o_204 P, hd.o_205 P, hd.o_206 P, hd.o_207 P, hd.o_208 P, hd.o_209 P, hd.o_210 P, hd.o_211 P, hd.o_212 P, hd.o_213 P, hd.o_214 P, hd.o_215 P, hd.o_216 P, hd.o_217 P, hd.o_218 P, hd.o_219 P, hd.o_220 P, hd.o_221 P, hd.o_222 P, hd.o_223 P, hd.o_224 P, hd.o_225 P, hd.o_226 P, hd.o_227 P, hd.o_228 P, hd.o_229 P, hd.o_230 P, hd.o_231 P, hd.o_232 P, hd.o_233 P, hd.o_234 P, hd.o_235 P, hd.o_236 P, hd.o_237 P, hd.o_238 P, hd.o_239 P, hd.o_240 P, hd.o_241 P, hd.o_242 P, hd.o_243 P, hd.o_244 P, hd.o_245 P, hd.o_246 P, hd.o_247 P, hd.o_248 P, hd.o_249 P, hd.o_250 P, hd.o_251 P, hd.o_252 P, hd.o_253 P, hd.o_254 P, hd.o_255 P, hd.o_256 P, hd.o_257 P, hd.o_258 P, hd.o_259 P, hd.o_260 P, hd.o_263 P, hd.o_264 P, hd.o_265 P, hd.o_266 P, hd.o_267 P, hd.o_268 P, hd.o_269 P, hd.o_270 P, hd.o_271 P, hd.o_272 P, hd.o_273 P, hd.o_274 P, hd.o_275 P, hd.o_276 P, hd.o_277 P, hd.o_278 P, hd.o_279 P, hd.o_280 P, hd.o_281 P, hd.o_282 P, hd.o_283 P, hd.o_284 P, hd.o_285 P, hd.o_286 P, hd.o_287 P, hd.o_288 P, hd.o_289 P, hd.o_290 P, hd.o_291 P, hd.o_292 P, hd.o_293 P, hd.o_294 P, hd.o_295 P, hd.o_296 P, hd.o_297 P, hd.o_298 P, hd.o_299 P, hd.o_300 P, hd.o_301 P, hd.o_302 P, hd.o_303 P, hd.o_304 P, hd.o_305 P, hd.o_306 P, hd.o_307 P, hd.o_308 P, hd.o_309 P, hd.o_310 P, hd.o_311 P, hd.o_312 P, hd.o_313 P, hd.o_314 P, hd.o_315 P, hd.o_316 P, hd.o_317 P, hd.o_318 P, hd.o_319 P, hd.o_320 P, hd.o_321 P, hd.o_322 P, hd.o_323 P, hd.o_324 P, hd.o_325 P, hd.o_326 P, hd.o_327 P, hd.o_328 P, hd.o_329 P, hd.o_330 P, hd.o_331 P, hd.o_332 P, hd.o_333 P, hd.o_334 P, hd.o_335 P, hd.o_336 P, hd.o_337 P, hd.o_338 P, hd.o_339 P, hd.o_340 P, hd.o_341 P, hd.o_342 P, hd.o_343 P, hd.o_344 P, hd.o_345 P, hd.o_346 P, hd.o_347 P, hd.o_348 P, hd.o_349 P, hd.o_350 P, hd.o_351 P, hd.o_352 P, hd.o_353 P, hd.o_354 P, hd.o_355 P, hd.o_356 P, hd.o_357 P, hd.o_358 P, hd.o_359 P, hd.o_360 P, hd.o_361 P, hd.o_362 P, hd.o_363 P, hd.o_364 P, hd.o_365 P, hd.o_366 P, hd.o_367 P, hd.o_368 P, hd.o_369 P, hd.o_370 P, hd.o_371 P, hd.o_372 P, hd.o_373 P, hd.o_374 P, hd.o_375 P, hd.o_376 P, hd.o_377 P, hd.o_378 P, hd.o_379 P, hd.o_380 P, hd.o_381 P, hd.o_382 P, hd.o_383 P, hd.o_384 P, hd.o_385 P, hd.o_386 P, hd.o_387 P, hd.o_388 P, hd.o_389 P, hd.o_390 P, hd.o_391 P, hd.o_392 P, hd.o_393 P, hd.o_394 P, hd.o_395 P, hd.o_396 P, hd.o_397 P, hd.o_398 P, hd.o_399 P, hd.o_400 P, hd.o_401 P, hd.o_402 P, hd.o_403 P, hd.o_404 P, hd.o_405 P, hd.o_406 P, hd.o_407 P, hd.o_408 P, hd.o_409 P, hd.o_410 P, hd.o_411 P, hd.o_412 P, hd.o_413 P, hd.o_414 P, hd.o_415 P, hd.o_416 P, hd.o_417 P, hd.o_418 P, hd.o_419 P, hd.o_420 P, hd.o_421 P, hd.o_422 P, hd.o_423 P, hd.o_424 P, hd.o_425 P, hd.o_426 P, hd.o_427 P, hd.o_428 P, hd.o_431 P, hd.o_432 P, hd.o_433 P, hd.o_434 P, hd.o_435 P, hd.o_436 P, hd.o_437 P, hd.o_438 P, hd.o_439 P, hd.o_440 P, hd.o_441 P, hd.o_442 P, hd.o_443 P, hd.o_444 P, hd.o_445 P, hd.o_446 P, hd.o_447 P, hd.o_448 P, hd.o_449 P, hd.o_450 P, hd.o_451 P]) (Life.mk [] [] [] 0 [] [] false #[] [] 0 false false false 0 [2000, 10, 10] false 0 true [] [] 0 false)
noncomputable def hd.heap_39 : Params → Frag := fun P => (nat_lit 2, hd.o_49 P) :: (nat_lit 3, hd.o_429 P) :: (nat_lit 15, boot_o_7 P) :: (nat_lit 17, hd.o_54 P) :: (nat_lit 18, boot_o_7 P) :: (nat_lit 20, hd.o_57 P) :: (nat_lit 21, hd.o_58 P) :: (nat_lit 22, hd.o_59 P) :: (nat_lit 29, boot_o_7 P) :: (nat_lit 31, hd.o_68 P) :: (nat_lit 32, boot_o_7 P) :: (nat_lit 34, hd.o_71 P) :: (nat_lit 35, hd.o_72 P) :: (nat_lit 36, hd.o_73 P) :: (nat_lit 37, hd.o_74 P) :: (nat_lit 38, hd.o_75 P) :: (nat_lit 39, hd.o_76 P) :: (nat_lit 42, hd.o_79 P) :: (nat_lit 49, boot_o_7 P) :: (nat_lit 50, hd.o_87 P) :: (nat_lit 51, hd.o_88 P) :: (nat_lit 61, boot_o_7 P) :: (nat_lit 63, hd.o_100 P) :: (nat_lit 64, boot_o_7 P) :: (nat_lit 66, hd.o_103 P) :: (nat_lit 67, hd.o_104 P) :: (nat_lit 68, boot_o_7 P) :: (nat_lit 70, hd.o_107 P) :: (nat_lit 71, boot_o_7 P) :: (nat_lit 73, hd.o_110 P) :: (nat_lit 74, hd.o_111 P) :: (nat_lit 75, hd.o_112 P) :: (nat_lit 76, hd.o_113 P) :: (nat_lit 77, hd.o_114 P) :: (nat_lit 78, hd.o_115 P) :: (nat_lit 79, hd.o_116 P) :: (nat_lit 89, boot_o_7 P) :: (nat_lit 91, hd.o_128 P) :: (nat_lit 92, boot_o_7 P) :: (nat_lit 94, hd.o_131 P) :: (nat_lit 95, hd.o_132 P) :: (nat_lit 96, boot_o_7 P) :: (nat_lit 98, hd.o_135 P) :: (nat_lit 99, boot_o_7 P) :: (nat_lit 101, hd.o_138 P) :: (nat_lit 102, hd.o_139 P) :: (nat_lit 103, hd.o_140 P) :: (nat_lit 104, hd.o_141 P) :: (nat_lit 105, hd.o_142 P) :: (nat_lit 106, hd.o_143 P) :: (nat_lit 107, hd.o_144 P) :: (nat_lit 117, boot_o_7 P) :: (nat_lit 119, hd.o_158 P) :: (nat_lit 120, boot_o_7 P) :: (nat_lit 122, hd.o_161 P) :: (nat_lit 123, hd.o_162 P) :: (nat_lit 124, boot_o_7 P) :: (nat_lit 126, hd.o_165 P) :: (nat_lit 127, boot_o_7 P) :: (nat_lit 129, hd.o_168 P) :: (nat_lit 130, hd.o_169 P) :: (nat_lit 131, hd.o_170 P) :: (nat_lit 132, hd.o_171 P) :: (nat_lit 133, hd.o_172 P) :: (nat_lit 134, hd.o_173 P) :: (nat_lit 135, hd.o_174 P) :: (nat_lit 145, boot_o_7 P) :: (nat_lit 147, hd.o_186 P) :: (nat_lit 148, boot_o_7 P) :: (nat_lit 150, hd.o_189 P) :: (nat_lit 151, hd.o_190 P) :: (nat_lit 152, boot_o_7 P) :: (nat_lit 154, hd.o_193 P) :: (nat_lit 155, boot_o_7 P) :: (nat_lit 157, hd.o_196 P) :: (nat_lit 158, hd.o_197 P) :: (nat_lit 159, hd.o_198 P) :: (nat_lit 160, hd.o_199 P) :: (nat_lit 161, hd.o_200 P) :: (nat_lit 162, hd.o_201 P) :: (nat_lit 163, hd.o_202 P) :: (nat_lit 173, boot_o_7 P) :: (nat_lit 175, hd.o_214 P) :: (nat_lit 176, boot_o_7 P) :: (nat_lit 178, hd.o_217 P) :: (nat_lit 179, hd.o_218 P) :: (nat_lit 180, boot_o_7 P) :: (nat_lit 182, hd.o_221 P) :: (nat_lit 183, boot_o_7 P) :: (nat_lit 185, hd.o_224 P) :: (nat_lit 186, hd.o_225 P) :: (nat_lit 187, hd.o_226 P) :: (nat_lit 188, hd.o_227 P) :: (nat_lit 189, hd.o_228 P) :: (nat_lit 190, hd.o_229 P) :: (nat_lit 191, hd.o_230 P) :: (nat_lit 201, boot_o_7 P) :: (nat_lit 203, hd.o_242 P) :: (nat_lit 204, boot_o_7 P) :: (nat_lit 206, hd.o_245 P) :: (nat_lit 207, hd.o_246 P) :: (nat_lit 208, boot_o_7 P) :: (nat_lit 210, hd.o_249 P) :: (nat_lit 211, boot_o_7 P) :: (nat_lit 213, hd.o_252 P) :: (nat_lit 214, hd.o_253 P) :: (nat_lit 215, hd.o_254 P) :: (nat_lit 216, hd.o_255 P) :: (nat_lit 217, hd.o_256 P) :: (nat_lit 218, hd.o_257 P) :: (nat_lit 219, hd.o_258 P) :: (nat_lit 229, boot_o_7 P) :: (nat_lit 231, hd.o_272 P) :: (nat_lit 232, boot_o_7 P) :: (nat_lit 234, hd.o_275 P) :: (nat_lit 235, hd.o_276 P) :: (nat_lit 236, boot_o_7 P) :: (nat_lit 238, hd.o_279 P) :: (nat_lit 239, boot_o_7 P) :: (nat_lit 241, hd.o_282 P) :: (nat_lit 242, hd.o_283 P) :: (nat_lit 243, hd.o_284 P) :: (nat_lit 244, hd.o_285 P) :: (nat_lit 245, hd.o_286 P) :: (nat_lit 246, hd.o_287 P) :: (nat_lit 247, hd.o_288 P) :: (nat_lit 257, boot_o_7 P) :: (nat_lit 259, hd.o_300 P) :: (nat_lit 260, boot_o_7 P) :: (nat_lit 262, hd.o_303 P) :: (nat_lit 263, hd.o_304 P) :: (nat_lit 264, boot_o_7 P) :: (nat_lit 266, hd.o_307 P) :: (nat_lit 267, boot_o_7 P) :: (nat_lit 269, hd.o_310 P) :: (nat_lit 270, hd.o_311 P) :: (nat_lit 271, hd.o_312 P) :: (nat_lit 272, hd.o_313 P) :: (nat_lit 273, hd.o_314 P) :: (nat_lit 274, hd.o_315 P) :: (nat_lit 275, hd.o_316 P) :: (nat_lit 285, boot_o_7 P) :: (nat_lit 287, hd.o_328 P) :: (nat_lit 288, boot_o_7 P) :: (nat_lit 290, hd.o_331 P) :: (nat_lit 291, hd.o_332 P) :: (nat_lit 292, boot_o_7 P) :: (nat_lit 294, hd.o_335 P) :: (nat_lit 295, boot_o_7 P) :: (nat_lit 297, hd.o_338 P) :: (nat_lit 298, hd.o_339 P) :: (nat_lit 299, hd.o_340 P) :: (nat_lit 300, hd.o_341 P) :: (nat_lit 301, hd.o_342 P) :: (nat_lit 302, hd.o_343 P) :: (nat_lit 303, hd.o_344 P) :: (nat_lit 306, boot_o_7 P) :: (nat_lit 308, hd.o_349 P) :: (nat_lit 309, boot_o_7 P) :: (nat_lit 311, hd.o_352 P) :: (nat_lit 312, hd.o_353 P) :: (nat_lit 313, boot_o_7 P) :: (nat_lit 315, hd.o_356 P) :: (nat_lit 316, boot_o_7 P) :: (nat_lit 318, hd.o_359 P) :: (nat_lit 319, hd.o_360 P) :: (nat_lit 320, boot_o_7 P) :: (nat_lit 322, hd.o_363 P) :: (nat_lit 323, boot_o_7 P) :: (nat_lit 325, hd.o_366 P) :: (nat_lit 326, hd.o_367 P) :: (nat_lit 327, boot_o_7 P) :: (nat_lit 329, hd.o_370 P) :: (nat_lit 330, boot_o_7 P) :: (nat_lit 332, hd.o_373 P) :: (nat_lit 333, hd.o_374 P) :: (nat_lit 334, boot_o_7 P) :: (nat_lit 336, hd.o_377 P) :: (nat_lit 337, boot_o_7 P) :: (nat_lit 339, hd.o_380 P) :: (nat_lit 340, hd.o_381 P) :: (nat_lit 341, boot_o_7 P) :: (nat_lit 343, hd.o_384 P) :: (nat_lit 344, boot_o_7 P) :: (nat_lit 346, hd.o_387 P) :: (nat_lit 347, hd.o_388 P) :: (nat_lit 348, boot_o_7 P) :: (nat_lit 350, hd.o_391 P) :: (nat_lit 351, boot_o_7 P) :: (nat_lit 353, hd.o_394 P) :: (nat_lit 354, hd.o_395 P) :: (nat_lit 355, boot_o_7 P) :: (nat_lit 357, hd.o_398 P) :: (nat_lit 358, boot_o_7 P) :: (nat_lit 360, hd.o_401 P) :: (nat_lit 361, hd.o_402 P) :: (nat_lit 362, boot_o_7 P) :: (nat_lit 364, hd.o_405 P) :: (nat_lit 365, boot_o_7 P) :: (nat_lit 367, hd.o_408 P) :: (nat_lit 368, hd.o_409 P) :: (nat_lit 369, boot_o_7 P) :: (nat_lit 371, hd.o_412 P) :: (nat_lit 372, boot_o_7 P) :: (nat_lit 374, hd.o_415 P) :: (nat_lit 375, hd.o_416 P) :: (nat_lit 376, boot_o_7 P) :: (nat_lit 379, hd.o_420 P) :: (nat_lit 380, hd.o_421 P) :: (nat_lit 381, boot_o_7 P) :: (nat_lit 383, hd.o_424 P) :: (nat_lit 384, boot_o_7 P) :: (nat_lit 386, hd.o_427 P) :: (nat_lit 387, hd.o_428 P) :: (nat_lit 388, boot_o_7 P) :: (nat_lit 390, hd.o_433 P) :: (nat_lit 391, boot_o_7 P) :: (nat_lit 393, hd.o_436 P) :: (nat_lit 394, hd.o_437 P) :: (nat_lit 395, boot_o_7 P) :: (nat_lit 397, hd.o_440 P) :: (nat_lit 398, boot_o_7 P) :: (nat_lit 400, hd.o_443 P) :: (nat_lit 401, hd.o_444 P) :: (nat_lit 402, boot_o_7 P) :: (nat_lit 404, hd.o_447 P) :: (nat_lit 405, boot_o_7 P) :: (nat_lit 407, hd.o_450 P) :: (nat_lit 408, hd.o_451 P) :: []
abbrev hd.as : List Addr := [nat_lit 2, nat_lit 3, nat_lit 15, nat_lit 17, nat_lit 18, nat_lit 20, nat_lit 21, nat_lit 22, nat_lit 29, nat_lit 31, nat_lit 32, nat_lit 34, nat_lit 35, nat_lit 36, nat_lit 37, nat_lit 38, nat_lit 39, nat_lit 42, nat_lit 49, nat_lit 50, nat_lit 51, nat_lit 61, nat_lit 63, nat_lit 64, nat_lit 66, nat_lit 67, nat_lit 68, nat_lit 70, nat_lit 71, nat_lit 73, nat_lit 74, nat_lit 75, nat_lit 76, nat_lit 77, nat_lit 78, nat_lit 79, nat_lit 89, nat_lit 91, nat_lit 92, nat_lit 94, nat_lit 95, nat_lit 96, nat_lit 98, nat_lit 99, nat_lit 101, nat_lit 102, nat_lit 103, nat_lit 104, nat_lit 105, nat_lit 106, nat_lit 107, nat_lit 117, nat_lit 119, nat_lit 120, nat_lit 122, nat_lit 123, nat_lit 124, nat_lit 126, nat_lit 127, nat_lit 129, nat_lit 130, nat_lit 131, nat_lit 132, nat_lit 133, nat_lit 134, nat_lit 135, nat_lit 145, nat_lit 147, nat_lit 148, nat_lit 150, nat_lit 151, nat_lit 152, nat_lit 154, nat_lit 155, nat_lit 157, nat_lit 158, nat_lit 159, nat_lit 160, nat_lit 161, nat_lit 162, nat_lit 163, nat_lit 173, nat_lit 175, nat_lit 176, nat_lit 178, nat_lit 179, nat_lit 180, nat_lit 182, nat_lit 183, nat_lit 185, nat_lit 186, nat_lit 187, nat_lit 188, nat_lit 189, nat_lit 190, nat_lit 191, nat_lit 201, nat_lit 203, nat_lit 204, nat_lit 206, nat_lit 207, nat_lit 208, nat_lit 210, nat_lit 211, nat_lit 213, nat_lit 214, nat_lit 215, nat_lit 216, nat_lit 217, nat_lit 218, nat_lit 219, nat_lit 229, nat_lit 231, nat_lit 232, nat_lit 234, nat_lit 235, nat_lit 236, nat_lit 238, nat_lit 239, nat_lit 241, nat_lit 242, nat_lit 243, nat_lit 244, nat_lit 245, nat_lit 246, nat_lit 247, nat_lit 257, nat_lit 259, nat_lit 260, nat_lit 262, nat_lit 263, nat_lit 264, nat_lit 266, nat_lit 267, nat_lit 269, nat_lit 270, nat_lit 271, nat_lit 272, nat_lit 273, nat_lit 274, nat_lit 275, nat_lit 285, nat_lit 287, nat_lit 288, nat_lit 290, nat_lit 291, nat_lit 292, nat_lit 294, nat_lit 295, nat_lit 297, nat_lit 298, nat_lit 299, nat_lit 300, nat_lit 301, nat_lit 302, nat_lit 303, nat_lit 306, nat_lit 308, nat_lit 309, nat_lit 311, nat_lit 312, nat_lit 313, nat_lit 315, nat_lit 316, nat_lit 318, nat_lit 319, nat_lit 320, nat_lit 322, nat_lit 323, nat_lit 325, nat_lit 326, nat_lit 327, nat_lit 329, nat_lit 330, nat_lit 332, nat_lit 333, nat_lit 334, nat_lit 336, nat_lit 337, nat_lit 339, nat_lit 340, nat_lit 341, nat_lit 343, nat_lit 344, nat_lit 346, nat_lit 347, nat_lit 348, nat_lit 350, nat_lit 351, nat_lit 353, nat_lit 354, nat_lit 355, nat_lit 357, nat_lit 358, nat_lit 360, nat_lit 361, nat_lit 362, nat_lit 364, nat_lit 365, nat_lit 367, nat_lit 368, nat_lit 369, nat_lit 371, nat_lit 372, nat_lit 374, nat_lit 375, nat_lit 376, nat_lit 379, nat_lit 380, nat_lit 381, nat_lit 383, nat_lit 384, nat_lit 386, nat_lit 387, nat_lit 388, nat_lit 390, nat_lit 391, nat_lit 393, nat_lit 394, nat_lit 395, nat_lit 397, nat_lit 398, nat_lit 400, nat_lit 401, nat_lit 402, nat_lit 404, nat_lit 405, nat_lit 407, nat_lit 408]
noncomputable def hd.view_39 : Program := view pw [0, 2, 3, 5, 6, 7, 8, 9, 10, 11, 12, 13, 15, 16, 17, 18, 19, 20, 21, 22, 23, 25, 26, 27, 28, 29, 30, 31, 32, 33, 34, 35]
noncomputable abbrev hd.env : Env := { scope := pw.main.scope, locals := mainNs, globals := mainNs, cells := [], code := Value.ref 13, frame := some 14 }
noncomputable abbrev hd.bb : List Stmt := behindTheImports pw
noncomputable abbrev hd.b1 : List Stmt := hd.bb.take 7
noncomputable abbrev hd.b2 : List Stmt := (hd.bb.drop 7).take 4
noncomputable abbrev hd.b3 : List Stmt := (hd.bb.drop 11).take 22
noncomputable abbrev hd.b4 : List Stmt := hd.bb.drop 33
noncomputable abbrev hd.cE : Code := Code.body hd.bb hd.env
abbrev hd.q0 : Pos := ⟨0, 0, 0, 0⟩
abbrev hd.q1 : Pos := ⟨20, 0, 26, 16⟩
abbrev hd.q2 : Pos := ⟨51, 0, 57, 16⟩
abbrev hd.q3 : Pos := ⟨183, 0, 186, 37⟩
abbrev hd.q4 : Pos := ⟨196, 0, 211, 33⟩
abbrev hd.B : List Frame := [topFrame hd.q0]
abbrev hd.ann : Option Value := some (.ref 6)
noncomputable abbrev hd.mods : List Str := importedModules pw.main.body
noncomputable abbrev hd.Xt : Shared → Bool := fun s => xlAt hd.view_39 [] s && recOk (RowW.records rw0.row.toRowW) s
noncomputable abbrev hd.s0 (w : World) (os : OsState) : Shared := ⟨boot_heap w.params, Array.mk [], boot_drawn, boot_toks, os⟩
noncomputable abbrev hd.sA (w : World) (os : OsState) : Shared := ⟨hd.heap_46 w.params, Array.mk [], {}, 187, os⟩
noncomputable abbrev hd.t0 (w : World) (os : OsState) : SharedT := ⟨hd.tree_47 w.params, 15, {}, Array.mk [], {}, 187, os⟩
noncomputable abbrev hd.t1 (w : World) (os : OsState) : SharedT := ⟨hd.tree_146 w.params, 110, {}, Array.mk [], {}, 315, os⟩
noncomputable abbrev hd.t2 (w : World) (os : OsState) : SharedT := ⟨hd.tree_260 w.params, 222, {}, Array.mk [], {}, 465, os⟩
noncomputable abbrev hd.t3 (w : World) (os : OsState) : SharedT := ⟨hd.tree_428 w.params, 388, {}, Array.mk [], {}, 701, os⟩
noncomputable abbrev hd.t4 (w : World) (os : OsState) : SharedT := ⟨hd.tree_451 w.params, 409, {}, Array.mk [], {}, 731, os⟩
noncomputable abbrev hd.sZ (w : World) (os : OsState) : Shared := ⟨hd.heap_452 w.params, Array.mk [], {}, 731, os⟩
theorem hd.opens : ∀ w : World, (fencedOpening treeTable pw w 6738).map (fun s => (s.heap, s.gens, s.drawn, s.toks)) = some (boot_heap w.params, Array.mk [], boot_drawn, boot_toks) :=
  boot_open (p := pw) (by kernel_rfl) (by decide) (by intro s; kernel_rfl)
theorem hd.sizes : ∀ w : World, ((boot_heap w.params).isNs mainGlobals && (Array.mk [] : Array GenState).size == 0, (boot_heap w.params).objs.size, (boot_heap w.params).nsMap mainGlobals "__annotations__") = (true, 11, hd.ann) := by
  intro w; kernel_rfl
theorem hd.pre (w : World) (os : OsState) : Fast.tw15667345088766844465 Fast.tw14364793385576792824 pw w 11 hd.ann 12 (hd.s0 w os) (topStub pw) = some (hd.sA w os, ⟨Fast.tw11892475500146522536 Fast.tw14364793385576792824 hd.cE, hd.cE, hd.q0, hd.B⟩) := by kernel_rfl
theorem hd.block (w : World) (os : OsState) : Fast.tw14374325043358763698 Fast.tw14364793385576792824 pw w 11 hd.ann 1 1 (hd.sA w os) (blockOf hd.bb hd.env hd.cE hd.q0 hd.B) = some (.next, (hd.t0 w os).abs, hd.cE, hd.q0) := by kernel_rfl
theorem hd.p1 (w : World) (os : OsState) : Fast.tw10110043849684766642 Fast.tw14364793385576792824 pw w 11 hd.ann 1 995 (hd.t0 w os) (piecesOf hd.b1 hd.env hd.cE hd.q0 hd.B) = some (.next, hd.t1 w os, hd.cE, hd.q1) := by kernel_rfl
theorem hd.p2 (w : World) (os : OsState) : Fast.tw10110043849684766642 Fast.tw14364793385576792824 pw w 11 hd.ann 1 1019 (hd.t1 w os) (piecesOf hd.b2 hd.env hd.cE hd.q1 hd.B) = some (.next, hd.t2 w os, hd.cE, hd.q2) := by kernel_rfl
theorem hd.p3 (w : World) (os : OsState) : Fast.tw10110043849684766642 Fast.tw14364793385576792824 pw w 11 hd.ann 1 1199 (hd.t2 w os) (piecesOf hd.b3 hd.env hd.cE hd.q2 hd.B) = some (.next, hd.t3 w os, hd.cE, hd.q3) := by kernel_rfl
theorem hd.p4 (w : World) (os : OsState) : Fast.tw10110043849684766642 Fast.tw14364793385576792824 pw w 11 hd.ann 1 97 (hd.t3 w os) (piecesOf hd.b4 hd.env hd.cE hd.q3 hd.B) = some (.next, hd.t4 w os, hd.cE, hd.q4) := by kernel_rfl
theorem hd.fin (w : World) (os : OsState) : Fast.tw14082659384304107361 Fast.tw14364793385576792824 pw w 11 hd.ann 2 (hd.t4 w os).abs ⟨doneF .next, hd.cE, hd.q4, hd.B⟩ = some (hd.sZ w os) := by kernel_rfl
theorem hd.bb_is : hd.bb = hd.b1 ++ (hd.b2 ++ (hd.b3 ++ (hd.b4 ++ []))) := by kernel_rfl
theorem hd.seg {w : World} {n : Nat} {s s' : SharedT} {t : Thread} {c : Code} {p : Pos} (h : Fast.tw10110043849684766642 Fast.tw14364793385576792824 pw w 11 hd.ann 1 n s t = some (.next, s', c, p)) :
    segRun treeTable pw w 11 hd.ann 1 n s.abs t = some (.next, s'.abs, c, p) := segRun_of (by rw [Fast.te10110043849684766642, Fast.te14364793385576792824]; exact h)
theorem hd.run (w : World) (os : OsState) : topRun treeTable pw w 11 hd.ann (12 + (1 + (995 + (1019 + (1199 + (97 + 2)))))) (hd.s0 w os) (topStub pw) = some (hd.sZ w os) := by
  refine go_top (s' := hd.sA w os) (t' := ⟨denote treeTable hd.cE, hd.cE, hd.q0, hd.B⟩) ?_ (piece_block (s' := (hd.t0 w os).abs) (p' := hd.q0) ?_ ?_)
  · rw [Fast.te15667345088766844465, Fast.te14364793385576792824, Fast.te11892475500146522536]; exact hd.pre w os
  · rw [Fast.te14374325043358763698, Fast.te14364793385576792824]; exact hd.block w os
  · refine (congrArg (fun l => topRun treeTable pw w 11 hd.ann (995 + (1019 + (1199 + (97 + 2)))) (hd.t0 w os).abs (restOf l hd.env hd.cE hd.q0 hd.B)) hd.bb_is).trans ?_
    refine piece_app (s' := (hd.t1 w os).abs) (p' := hd.q1) (hd.seg (hd.p1 w os)) (piece_app (s' := (hd.t2 w os).abs) (p' := hd.q2) (hd.seg (hd.p2 w os)) (piece_app (s' := (hd.t3 w os).abs) (p' := hd.q3) (hd.seg (hd.p3 w os)) (piece_app (s' := (hd.t4 w os).abs) (p' := hd.q4) (hd.seg (hd.p4 w os)) (piece_nil ?_))))
    rw [Fast.te14082659384304107361, Fast.te14364793385576792824]; exact hd.fin w os
theorem hd.as_ok : ∀ P, hd.as = (hd.heap_39 P).map (·.1) := fun _ => by kernel_rfl
theorem hd.look1 (w : World) (os : OsState) : (staticsOk hd.mods (boot_heap w.params) (hd.sZ w os).heap && namesBound pw (hd.sZ w os).heap && gensDone (hd.sZ w os) && laidKept (boot_heap w.params) (hd.sZ w os).heap) = true := by kernel_rfl
theorem hd.look2 (w : World) (os : OsState) : Fast.tw4187177175401517315 hd.view_39 [] hd.mods hd.Xt true (hd.sZ w os) = openGood hd.view_39 [] := by kernel_rfl
theorem hd.look3 (w : World) (os : OsState) : (kHook hd.heap_39 hd.as hd.as_ok).obs (hd.sZ w os) = (kHook hd.heap_39 hd.as hd.as_ok).val w := by kernel_rfl
theorem hd.left : LeftO pw hd.view_39 [] hd.Xt (kHook hd.heap_39 hd.as hd.as_ok).obs (kHook hd.heap_39 hd.as hd.as_ok).val 6738 := by
  refine LeftO.of_pieces (H₀ := boot_heap) (H₁ := hd.heap_452) (m₀ := 11) (ann := hd.ann) (M := 12 + (1 + (995 + (1019 + (1199 + (97 + 2)))))) hd.opens hd.sizes hd.run (by decide) fun w => funext fun os => ?_
  refine Prod.ext (hd.look1 w os) (Prod.ext ?_ (hd.look3 w os))
  show openSeen hd.view_39 [] hd.mods hd.Xt true (hd.sZ w os) = openGood hd.view_39 []
  rw [Fast.te4187177175401517315]; exact hd.look2 w os
theorem hd.said : rw0.wellSaid = true := by
  rw [Fast.te9446332074065402090]; kernel_rfl
theorem warm : PySem.Challenge.rw_xm0658_01.Holds → hd.heap_39 = hd.heap_39 := by
  k_fill
  intro _; rfl
local macro_rules | `(tactic| walk_at $s:str) => `(tactic| k_extra $s)
theorem rows_c1 : True := by
  k_with_none
  (k_with "ite" => first | with_reducible refine ite_tt ?_ | with_reducible refine ite_ff ?_)
  (k_with "mem" => first | with_reducible assumption | ((fail_if_success (refine' List.Mem.tail _ ?_)); assumption))
  (k_with "room" => ((try simp only [depth_mark, depth_under_make, depth_under_kw, depth_in1, depth_deeper, depth_caller]); (try dsimp only [ktrTop]); (first | exact room0 (by with_reducible assumption) | exact room1 (by with_reducible assumption) (by decide) | exact room2 (by with_reducible assumption) (by decide) | exact room3 (by with_reducible assumption) (by decide) | omega)))
  (k_with "units" => ((try simp only [units_in1, units_deeper, Around.mark_units, units_caller]); (try dsimp only [ktrTop]); (first | exact room0 (by with_reducible assumption) | exact room1 (by with_reducible assumption) (by decide) | exact room2 (by with_reducible assumption) (by decide) | exact room3 (by with_reducible assumption) (by decide) | omega)))
  (k_with "ne" => (refine neN ?_; first | exact ne0 (by with_reducible assumption) | exact ne1 (by with_reducible assumption) | exact ne2 (by with_reducible assumption) | exact ne3 (by with_reducible assumption) | exact ne4 (by with_reducible assumption) | exact ne5 (by with_reducible assumption) | ((try dsimp only); omega)))
  trivial
section
theorem room0 {d c R : Nat} (h : d + c < R) : d < R := Nat.lt_of_le_of_lt (Nat.le_add_right d c) h
theorem room1 {d c a R : Nat} (h : d + c < R) (e : a ≤ c) : d + a < R := Nat.lt_of_le_of_lt (Nat.add_le_add_left e d) h
theorem room2 {d c a b R : Nat} (h : d + c < R) (e : a + b ≤ c) : d + a + b < R := by rw [Nat.add_assoc]; exact room1 h e
theorem room3 {d c a b f R : Nat} (h : d + c < R) (e : a + b + f ≤ c) : d + a + b + f < R := by rw [Nat.add_assoc d a b, Nat.add_assoc d (a + b) f]; exact room1 h e
section
variable {a b : Nat} {A B C D E F : Prop}
theorem ne0 (h : b < a ∧ A) : a ≠ b := Nat.ne_of_gt h.1
theorem ne1 (h : A ∧ b < a ∧ B) : a ≠ b := ne0 h.2
theorem ne2 (h : A ∧ B ∧ b < a ∧ C) : a ≠ b := ne1 h.2
theorem ne3 (h : A ∧ B ∧ C ∧ b < a ∧ D) : a ≠ b := ne2 h.2
theorem ne4 (h : A ∧ B ∧ C ∧ D ∧ b < a ∧ E) : a ≠ b := ne3 h.2
theorem ne5 (h : A ∧ B ∧ C ∧ D ∧ E ∧ b < a ∧ F) : a ≠ b := ne4 h.2
end
def Spec (prog : Program) (w : World) (p : Program) (loose : List Str) (mean : ExcName → Option Value) (mg mb : Str → Option Value) (f : Addr) (vs : List Value) (news : List (Addr × Obj)) (dn un₀ : Nat) (Post : Value → List (Addr × Obj) → Prop) : Prop :=
  ∀ (dp un : Nat) (gd : Option (List Code)) (cn : Str) (cs : Scope) (a : Addr) (ccd : Value) (cl : List (Str × Addr)) (outer : List Env) (A₀ : Around) (base h₀ : Heap) (L : Addr) (m : Str → Option Value) (s : Shared) (Q E : Value → Shared → Prop),
    Below A₀ base outer h₀ → Fr h₀ L s.heap m → (hd.heap_39 w.params).In h₀ → News h₀ L s.heap news → Top p loose mean mg mb h₀ → cs.kind = .function →
    dp + dn < recursionLimit → un + un₀ < cLine →
    (∀ (v : Value) (news' : List (Addr × Obj)) (h' : Heap) (tk' : Nat), Post v news' → Fr h₀ L h' m → News h₀ L h' news' → Q v { s with heap := h', toks := tk' }) →
      wpAny (model prog w) (ktrTop dp un gd cn cs L a ccd cl outer) (call (.ref f) vs) Q E s
/-- the source: two ints, the second a rest -/
def SrcOk (o : Obj) : Prop := ∃ (x y : Int) (tx ty : Tok) (n : Nat), o = listOf [.int x tx, .int y ty].toArray n ∧ 0 ≤ x ∧ 0 ≤ y ∧ y < 2147483647
theorem news_perm {h₀ h : Heap} {L : Addr} {l l' : List (Addr × Obj)} (N : News h₀ L h l) (hs : ∀ p ∈ l', p ∈ l) : News h₀ L h l' := fun p hp => N p (hs p hp)
theorem to_front {q : Addr × Obj} {pre post : List (Addr × Obj)} : ∀ p ∈ q :: (pre ++ post), p ∈ pre ++ q :: post := fun p hp => by
  simp only [List.mem_cons, List.mem_append] at hp ⊢
  rcases hp with h | h | h
  · exact .inr (.inl h)
  · exact .inl h
  · exact .inr (.inr h)
theorem from_front {q : Addr × Obj} {pre post : List (Addr × Obj)} : ∀ p ∈ pre ++ q :: post, p ∈ q :: (pre ++ post) := fun p hp => by
  simp only [List.mem_cons, List.mem_append] at hp ⊢
  rcases hp with h | h | h
  · exact .inr (.inl h)
  · exact .inl h
  · exact .inr (.inr h)
theorem apart {d : Addr} {pre post : List (Addr × Obj)} (h1 : ∀ p ∈ pre, p.1 ≠ d) (h2 : ∀ p ∈ post, p.1 ≠ d) : ∀ p ∈ pre ++ post, p.1 ≠ d := fun p hp => (List.mem_append.mp hp).elim (h1 p) (h2 p)
theorem Spec.use {prog : Program} {w : World} {p : Program} {loose : List Str} {mean : ExcName → Option Value} {mg mb : Str → Option Value} {f : Addr} {vs : List Value} {news : List (Addr × Obj)} {dn un₀ : Nat} {Post : Value → List (Addr × Obj) → Prop}
    (S : Spec prog w p loose mean mg mb f vs news dn un₀ Post) {dp un : Nat} {gd : Option (List Code)} {cn : Str} {cs : Scope} {a : Addr} {ccd : Value} {cl : List (Str × Addr)} {outer : List Env} {A₀ : Around} {base h₀ : Heap} {L : Addr} {m : Str → Option Value} {s : Shared} {Q E : Value → Shared → Prop}
    (B : Below A₀ base outer h₀) (F : Fr h₀ L s.heap m) (X : (hd.heap_39 w.params).In h₀) (N : News h₀ L s.heap news) (T : Top p loose mean mg mb h₀) (hk : cs.kind = .function) (hd : dp + dn < recursionLimit) (hu : un + un₀ < cLine)
    (ret : ∀ (v : Value) (news' : List (Addr × Obj)) (h' : Heap) (tk' : Nat), Post v news' → Fr h₀ L h' m → News h₀ L h' news' → Q v { s with heap := h', toks := tk' }) :
    wpAny (model prog w) (ktrTop dp un gd cn cs L a ccd cl outer) (call (.ref f) vs) Q E s := S _ _ _ _ _ _ _ _ _ _ _ _ _ _ _ _ _ B F X N T hk hd hu ret
theorem Spec.use2 {prog : Program} {w : World} {p : Program} {loose : List Str} {mean : ExcName → Option Value} {mg mb : Str → Option Value} {f : Addr} {vs : List Value} {news : List (Addr × Obj)} {dn un₀ : Nat} {Post : Value → List (Addr × Obj) → Prop} {dp un : Nat} {gd : Option (List Code)} {cn : Str} {cs : Scope} {a : Addr} {ccd : Value} {cl : List (Str × Addr)} {outer : List Env} {A₀ : Around} {base h₀ : Heap} {L : Addr} {m : Str → Option Value} {s : Shared} {Q E : Value → Shared → Prop}
    (B : Below A₀ base outer h₀) (F : Fr h₀ L s.heap m) (X : (hd.heap_39 w.params).In h₀) (N : News h₀ L s.heap news) (T : Top p loose mean mg mb h₀) (hk : cs.kind = .function) (S : Spec prog w p loose mean mg mb f vs news dn un₀ Post) (hd : dp + dn < recursionLimit) (hu : un + un₀ < cLine)
    (ret : ∀ (v : Value) (news' : List (Addr × Obj)) (h' : Heap) (tk' : Nat), Post v news' → Fr h₀ L h' m → News h₀ L h' news' → Q v { s with heap := h', toks := tk' }) :
    wpAny (model prog w) (ktrTop dp un gd cn cs L a ccd cl outer) (call (.ref f) vs) Q E s := S _ _ _ _ _ _ _ _ _ _ _ _ _ _ _ _ _ B F X N T hk hd hu ret
end
local macro_rules | `(tactic| k_all) => `(tactic| assumption)
local macro_rules | `(tactic| k_mem) => `(tactic| k_extra "mem")
local macro_rules | `(tactic| k_room) => `(tactic| k_extra "room")
local macro_rules | `(tactic| ktr_room) => `(tactic| k_extra "room")
local macro_rules | `(tactic| ktr_units) => `(tactic| k_extra "units")
local macro_rules | `(tactic| k_units) => `(tactic| k_extra "units")
local macro_rules | `(tactic| k_ne) => `(tactic| k_extra "ne")
local macro_rules | `(tactic| ke_room) => `(tactic| k_extra "ke_room")
local macro_rules | `(tactic| kts_go) => `(tactic| k_extra "kts_go")
local macro_rules | `(tactic| kt_item) => `(tactic| k_extra "kt_item")
theorem rows_c2 : True := by
  k_with_none
  (k_with "ite" => first | with_reducible refine ite_tt ?_ | with_reducible refine ite_ff ?_)
  (k_with "mem" => first | with_reducible assumption | ((fail_if_success (refine' List.Mem.tail _ ?_)); assumption))
  (k_with "room" => ((try simp only [depth_mark, depth_under_make, depth_under_kw, depth_in1, depth_deeper, depth_caller]); (try dsimp only [ktrTop]); (first | exact room0 (by with_reducible assumption) | exact room1 (by with_reducible assumption) (by decide) | exact room2 (by with_reducible assumption) (by decide) | exact room3 (by with_reducible assumption) (by decide) | omega)))
  (k_with "units" => ((try simp only [units_in1, units_deeper, Around.mark_units, units_caller]); (try dsimp only [ktrTop]); (first | exact room0 (by with_reducible assumption) | exact room1 (by with_reducible assumption) (by decide) | exact room2 (by with_reducible assumption) (by decide) | exact room3 (by with_reducible assumption) (by decide) | omega)))
  (k_with "ne" => (refine neN ?_; first | exact ne0 (by with_reducible assumption) | exact ne1 (by with_reducible assumption) | exact ne2 (by with_reducible assumption) | exact ne3 (by with_reducible assumption) | exact ne4 (by with_reducible assumption) | exact ne5 (by with_reducible assumption) | ((try dsimp only); omega)))
  (k_with "subscriptTail Name Constant ref int" => (k_here; k_dflt (refine item_listL (News.isList (by k_asm) (by k_mem)) (by decide) (by decide) (by exact rfl) ?_ (by with_unfolding_all rfl) (by intro _; with_unfolding_all rfl); k_whole)))
  (k_with "subscriptTail Name Name ref int" => (k_here; k_dflt (refine item_listL (News.isList (by k_asm) (by k_mem)) (by decide) (by decide) (by exact rfl) ?_ (by with_unfolding_all rfl) (by intro _; with_unfolding_all rfl); k_whole)))
  trivial
section
theorem mul_ok {a b : Int} (h1 : 0 ≤ b) (h2 : b < 2147483647) : IntMulOk a b := IntMulOk.of_right (intBits_le_64 (by omega) (by omega))
theorem fmod_lo (a : Int) {b : Int} (h : 0 < b) : 0 ≤ a.fmod b := by rw [Int.fmod_eq_emod_of_nonneg _ (by omega)]; exact Int.emod_nonneg _ (by omega)
theorem fmod_hi (a : Int) {b : Int} (h : 0 < b) : a.fmod b < b := by rw [Int.fmod_eq_emod_of_nonneg _ (by omega)]; exact Int.emod_lt_of_pos _ h
theorem fdiv_lo {a b : Int} (h0 : 0 ≤ a) (h : 0 < b) : 0 ≤ a.fdiv b := by rw [Int.fdiv_eq_ediv_of_nonneg _ (by omega)]; exact Int.ediv_nonneg h0 (by omega)
section
theorem rows_c2_1 : True := by
  (k_with "binaryOp Mult int int" => (refine mul_int ?_ (mul_ok (fmod_lo _ (by decide)) (fmod_hi _ (by decide)))))
  trivial
set_option maxHeartbeats 2000000 in
theorem take_spec {prog : Program} {w : World} {p : Program} {loose : List Str} {mean : ExcName → Option Value} {mg mb : Str → Option Value} {src : Addr} {o : Obj} {news : List (Addr × Obj)} {g : Obj → List (Addr × Obj)} {top : Int} {tt : Tok}
    (U : UpdF src o news g) (ho : SrcOk o) (h0 : 0 < top) (h1 : top < 1000000) :
    Spec prog w p loose mean mg mb 347 [.ref src, .int top tt] news 1 8 (fun v news' => ∃ r t o', v = .int r t ∧ 0 ≤ r ∧ r < top ∧ SrcOk o' ∧ news' = g o') := by
  obtain ⟨x, y, tx, ty, n, rfl, hx, hy, hy'⟩ := ho
  obtain ⟨pre, post, rfl, hg, hpre, hpost⟩ := U.split
  clear U
  have hap := apart hpre hpost
  intro dp un gd cn cs a ccd cl outer A₀ base h₀ L m s Q E B F X N T hk hd hu hret
  replace N := news_perm N to_front
  generalize hrest : pre ++ post = rest at hap N
  refine wpAny_call ?_
  k_dflt cell_enter
  k_steps
  all_goals (subst hrest; refine hret _ _ _ _ ⟨_, _, _, rfl, ?_, ?_, ⟨_, _, _, _, _, rfl, ?_, ?_, ?_⟩, rfl⟩ (by k_asm) (by rw [hg]; exact news_perm (by assumption) from_front))
  · exact fmod_lo _ h0
  · exact fmod_hi _ h0
  · exact fdiv_lo hx h0
  · exact hy
  · exact hy'
  · exact fmod_lo _ h0
  · exact fmod_hi _ h0
  · exact hx
  · exact fmod_lo _ (by decide)
  · exact fmod_hi _ (by decide)
end
theorem take_use {prog : Program} {w : World} {p : Program} {loose : List Str} {mean : ExcName → Option Value} {mg mb : Str → Option Value} {src : Addr} {o : Obj} {news : List (Addr × Obj)} {g : Obj → List (Addr × Obj)} {top : Int} {tt : Tok} {dp un : Nat} {gd : Option (List Code)} {cn : Str} {cs : Scope} {a : Addr} {ccd : Value} {cl : List (Str × Addr)} {outer : List Env} {A₀ : Around} {base h₀ : Heap} {L : Addr} {m : Str → Option Value} {s : Shared} {Q E : Value → Shared → Prop}
    (B : Below A₀ base outer h₀) (F : Fr h₀ L s.heap m) (X : (hd.heap_39 w.params).In h₀) (N : News h₀ L s.heap news) (T : Top p loose mean mg mb h₀) (hk : cs.kind = .function) (U : UpdF src o news g) (ho : SrcOk o) (h0 : 0 < top) (h1 : top < 1000000) (hdp : dp + 1 < recursionLimit) (hun : un + 8 < cLine)
    (ret : ∀ (r : Int) (t : Tok) (o' : Obj) (h' : Heap) (tk' : Nat), 0 ≤ r → r < top → SrcOk o' → Fr h₀ L h' m → News h₀ L h' (g o') → Q (.int r t) { s with heap := h', toks := tk' }) :
    wpAny (model prog w) (ktrTop dp un gd cn cs L a ccd cl outer) (call (.ref 347) [.ref src, .int top tt]) Q E s := Spec.use (take_spec U ho h0 h1) B F X N T hk hdp hun fun v nn h' tk' hp F' N' => by
  obtain ⟨r, t, o', e, a1, a2, a3, e2⟩ := hp
  subst e; subst e2; exact ret r t o' h' tk' a1 a2 a3 F' N'
end
section
theorem rows_c3 : True := by
  k_with_none
  (k_with "ite" => first | with_reducible refine ite_tt ?_ | with_reducible refine ite_ff ?_)
  (k_with "mem" => first | with_reducible assumption | ((fail_if_success (refine' List.Mem.tail _ ?_)); assumption))
  (k_with "room" => ((try simp only [depth_mark, depth_under_make, depth_under_kw, depth_in1, depth_deeper, depth_caller]); (try dsimp only [ktrTop]); (first | exact room0 (by with_reducible assumption) | exact room1 (by with_reducible assumption) (by decide) | exact room2 (by with_reducible assumption) (by decide) | exact room3 (by with_reducible assumption) (by decide) | omega)))
  (k_with "units" => ((try simp only [units_in1, units_deeper, Around.mark_units, units_caller]); (try dsimp only [ktrTop]); (first | exact room0 (by with_reducible assumption) | exact room1 (by with_reducible assumption) (by decide) | exact room2 (by with_reducible assumption) (by decide) | exact room3 (by with_reducible assumption) (by decide) | omega)))
  (k_with "ne" => (refine neN ?_; first | exact ne0 (by with_reducible assumption) | exact ne1 (by with_reducible assumption) | exact ne2 (by with_reducible assumption) | exact ne3 (by with_reducible assumption) | exact ne4 (by with_reducible assumption) | exact ne5 (by with_reducible assumption) | ((try dsimp only); omega)))
  (k_with "subscriptTail Name Constant ref int" => (k_here; k_dflt (refine item_listL (News.isList (by k_asm) (by k_mem)) (by decide) (by decide) (by exact rfl) ?_ (by with_unfolding_all rfl) (by intro _; with_unfolding_all rfl); k_whole)))
  (k_with "subscriptTail Name Name ref int" => (k_here; k_dflt (refine item_listL (News.isList (by k_asm) (by k_mem)) (by decide) (by decide) (by exact rfl) ?_ (by with_unfolding_all rfl) (by intro _; with_unfolding_all rfl); k_whole)))
  trivial
section
theorem turn_lt {T B K f : Int} (hz : (T * 10 ^ f.toNat).fmod B ≠ 0) (h1 : f ≤ K) (hdiv : (T * 10 ^ K.toNat).fmod B = 0) : f < K := by
  rcases Int.lt_or_eq_of_le h1 with h | h
  · exact h
  · subst h; exact absurd hdiv hz
theorem exit_dv {T B K f : Int} (hz : (T * 10 ^ f.toNat).fmod B = 0) (h0 : 0 ≤ f) (h1 : f ≤ K) (hl : ∀ j, 0 ≤ j → j < K → (T * 10 ^ j.toNat).fmod B ≠ 0) : f = K := by
  rcases Int.lt_or_eq_of_le h1 with h | h
  · exact absurd hz (hl f h0 h)
  · exact h
theorem exit_one {B K f : Int} (hb : B = 1) (h1 : f ≤ K) (h0 : 0 ≤ f) (ho : B = 1 → K = 0) : f = K := by
  have := ho hb
  omega
def decT (V K : Int) : Str := if K = 0 then Str.ofString (toString V) else
  Txt.slice (Txt.mul (Str.ofString "0") (K + 1 - ↑(Str.ofString (toString V)).length) ++ Str.ofString (toString V)) none (some (↑(Txt.mul (Str.ofString "0") (K + 1 - ↑(Str.ofString (toString V)).length) ++ Str.ofString (toString V)).length - K)) ++ Str.ofString "." ++
    Txt.slice (Txt.mul (Str.ofString "0") (K + 1 - ↑(Str.ofString (toString V)).length) ++ Str.ofString (toString V)) (some (↑(Txt.mul (Str.ofString "0") (K + 1 - ↑(Str.ofString (toString V)).length) ++ Str.ofString (toString V)).length - K)) none
theorem dec_zero {V K : Int} (h : K = 0) : Str.ofString (toString V) = decT V K := by rw [decT, if_pos h]
theorem dec_some {V K : Int} (h : K ≠ 0) : Txt.slice (Txt.mul (Str.ofString "0") (K + 1 - ↑(Str.ofString (toString V)).length) ++ Str.ofString (toString V)) none (some (↑(Txt.mul (Str.ofString "0") (K + 1 - ↑(Str.ofString (toString V)).length) ++ Str.ofString (toString V)).length - K)) ++ Str.ofString "." ++
    Txt.slice (Txt.mul (Str.ofString "0") (K + 1 - ↑(Str.ofString (toString V)).length) ++ Str.ofString (toString V)) (some (↑(Txt.mul (Str.ofString "0") (K + 1 - ↑(Str.ofString (toString V)).length) ++ Str.ofString (toString V)).length - K)) none = decT V K := by rw [decT, if_neg h]
theorem str_is {x y : Str} {t : Tok} (h : x = y) : ∃ u, Value.str x t = .str y u := ⟨t, by rw [h]⟩
def Shown (T B K V : Int) : Prop := 0 ≤ T ∧ T < 1000000000000 ∧ 0 < B ∧ B.natAbs.log2 < 9000 ∧ 0 ≤ K ∧ K ≤ 400 ∧ (T * 10 ^ K.toNat).fmod B = 0 ∧ (∀ j, 0 ≤ j → j < K → (T * 10 ^ j.toNat).fmod B ≠ 0) ∧ (B = 1 → K = 0) ∧ (T * 10 ^ K.toNat).fdiv B = V ∧ 0 ≤ V ∧ V < 10 ^ 10
section
theorem rows_c3_2 : True := by
  (k_with "binaryOp Pow int int" => (refine pow_int_small ?_ ?_ ?_ ?_; omega; omega; decide))
  (k_with "binaryOp Mult int int" => (refine mul_int ?_ (IntMulOk.of_left (intBits_le_64 (by omega) (by omega)))))
  trivial
set_option maxHeartbeats 1000000 in
theorem written_ok {prog : Program} {w : World} {p : Program} {loose : List Str} {mean : ExcName → Option Value} {mg mb : Str → Option Value} {news : List (Addr × Obj)} {r : Addr} {n : Nat} {t1 t2 : Tok} {T B K V : Int}
    (hr : (r, ({ cls := .type "tuple", data := .seq [.int T t1, .int B t2].toArray n } : Obj)) ∈ news) (hS : Shown T B K V) :
    Spec prog w p loose mean mg mb 375 [.ref r] news 4 400 (fun v n2 => (∃ t, v = .str (decT V K) t) ∧ n2 = news) := by
  obtain ⟨hT, hT2, hB, hBl, hK, hK4, hdiv, hleast, hone, hV, hV0, hV1⟩ := hS
  intro dp un gd cn cs a ccd cl outer A₀ base h₀ L m s Q E Bl F X N Tp hk hd hu hret
  k_with "exec While BoolOp cons nil" => k_while (fun (_ : List Int) f => 0 ≤ f ∧ f ≤ K) (fun (_ : List Int) f => (K - f).toNat) "figures"
  k_with "state" => first | exact ⟨by omega, Int.add_one_le_of_lt (turn_lt (by assumption) (by assumption) hdiv)⟩ | exact ⟨by omega, by omega⟩
  k_with "exec Raise some none" => (exfalso; first | omega | (rename (T * 10 ^ Int.toNat _).fmod B ≠ 0 => hz; have hlt := turn_lt hz (by assumption) hdiv; omega))
  k_with "binaryOp FloorDiv int int" => (have e : _ = K := (by first | exact exit_one (by assumption) (by assumption) (by assumption) hone | (rename (T * 10 ^ Int.toNat _).fmod B = 0 => hz; exact exit_dv hz (by assumption) (by assumption) hleast)); subst e; refine floordiv_int (Int.ne_of_gt hB) ?_ (Or.inl (PyProof.noPylong_of_log2 hBl)); rw [hV])
  k_with "measure" => (have hlt := turn_lt (by assumption) (by assumption) hdiv; omega)
  refine wpAny_call ?_
  k_dflt cell_enter
  repeat' (first | (k_unfold; (try dsimp only)) | ((fail_if_success (with_reducible show Q _ _)); first | walk1 | (dsimp only; walk1) | (leave1; walk_say "STEP leave1"; (try dsimp only))))
  all_goals first
    | exact hret _ _ _ _ ⟨str_is (dec_zero (by assumption)), rfl⟩ (by k_asm) (by k_asm)
    | exact hret _ _ _ _ ⟨str_is (dec_some (by assumption)), rfl⟩ (by k_asm) (by k_asm)
end
end
end
theorem rows_c4 : True := by
  k_with_none
  (k_with "ite" => first | with_reducible refine ite_tt ?_ | with_reducible refine ite_ff ?_)
  (k_with "mem" => first | with_reducible assumption | ((fail_if_success (refine' List.Mem.tail _ ?_)); assumption))
  (k_with "room" => ((try simp only [depth_mark, depth_under_make, depth_under_kw, depth_in1, depth_deeper, depth_caller]); (try dsimp only [ktrTop]); (first | exact room0 (by with_reducible assumption) | exact room1 (by with_reducible assumption) (by decide) | exact room2 (by with_reducible assumption) (by decide) | exact room3 (by with_reducible assumption) (by decide) | omega)))
  (k_with "units" => ((try simp only [units_in1, units_deeper, Around.mark_units, units_caller]); (try dsimp only [ktrTop]); (first | exact room0 (by with_reducible assumption) | exact room1 (by with_reducible assumption) (by decide) | exact room2 (by with_reducible assumption) (by decide) | exact room3 (by with_reducible assumption) (by decide) | omega)))
  (k_with "ne" => (refine neN ?_; first | exact ne0 (by with_reducible assumption) | exact ne1 (by with_reducible assumption) | exact ne2 (by with_reducible assumption) | exact ne3 (by with_reducible assumption) | exact ne4 (by with_reducible assumption) | exact ne5 (by with_reducible assumption) | ((try dsimp only); omega)))
  (k_with "subscriptTail Name Constant ref int" => (k_here; k_dflt (refine item_listL (News.isList (by k_asm) (by k_mem)) (by decide) (by decide) (by exact rfl) ?_ (by with_unfolding_all rfl) (by intro _; with_unfolding_all rfl); k_whole)))
  (k_with "subscriptTail Name Name ref int" => (k_here; k_dflt (refine item_listL (News.isList (by k_asm) (by k_mem)) (by decide) (by decide) (by exact rfl) ?_ (by with_unfolding_all rfl) (by intro _; with_unfolding_all rfl); k_whole)))
  trivial
section
section
open PySem.Builtin.Str
theorem idx_take {j len : Nat} : strSliceIndices none (some (j : Int)) 1 len = strSliceIndices (some ((0 : Nat) : Int)) (some (j : Int)) 1 len := by
  have e : max (0 : Int) (min (0 : Int) (len : Int)) = 0 := by omega
  simp [strSliceIndices, e]
theorem idx_drop {j len : Nat} : strSliceIndices (some (j : Int)) none 1 len = strSliceIndices (some (j : Int)) (some ((len : Nat) : Int)) 1 len := by
  have e : max (0 : Int) (min (if (len : Int) < 0 then (len : Int) + len else len) (len : Int)) = len := by rw [if_neg (by omega)]; omega
  simp only [strSliceIndices, show ((1 : Int) > 0) = True from by simp, if_true, e]
theorem slice_take (x : Str) {j : Nat} (h : j ≤ x.length) : (Txt.slice x none (some (j : Int))).cps.toList = x.cps.toList.take j := by
  unfold Txt.slice
  rw [idx_take]
  split
  · rename_i hc
    rw [StrLaws.strSliceIndices_plain (Nat.zero_le _) h] at hc
    have e : j = x.length := by simpa using hc
    rw [e]
    exact (List.take_of_length_le (by simp [Str.length])).symm
  · rw [StrLaws.sliced_plain x (Nat.zero_le _) h]
    simp
theorem slice_drop (x : Str) {j : Nat} (h : j ≤ x.length) : (Txt.slice x (some (j : Int)) none).cps.toList = x.cps.toList.drop j := by
  unfold Txt.slice
  rw [idx_drop]
  split
  · rename_i hc
    rw [StrLaws.strSliceIndices_plain h (Nat.le_refl _)] at hc
    have e : x.length - j = x.length := by simpa using hc
    rcases Nat.eq_zero_or_pos x.length with h0 | h0
    · have : j = 0 := by omega
      subst this
      simp
    · have : j = 0 := by omega
      subst this
      simp
  · rw [StrLaws.sliced_plain x h (Nat.le_refl _)]
    exact List.take_of_length_le (by simp [Str.length])
end
def dg (m : Nat) : List Nat := (Nat.toDigits 10 m).map Char.toNat
theorem dg_pos (m : Nat) : 1 ≤ (dg m).length := by
  unfold dg
  rw [List.length_map]
  exact tDigits_len_ge 10 m
theorem digit_nat : ∀ d, d < 10 → (Nat.digitChar d).toNat = 48 + d := by decide
theorem dg_small {d : Nat} (h : d < 10) : dg d = [48 + d] := by
  unfold dg
  rw [Nat.toDigits_of_lt_base h]
  simp [digit_nat d h]
theorem dg_step {m d : Nat} (hm : 0 < m) (h : d < 10) : dg (10 * m + d) = dg m ++ [48 + d] := by
  rw [← dg_small h]
  unfold dg
  rw [← Nat.toDigits_append_toDigits (by decide) hm h, List.map_append]
theorem dg_text (m : Nat) : (Str.ofString (toString ((m : Nat) : Int))).cps.toList = dg m := KIN.signs_num m
def pad (n m : Nat) : List Nat := List.replicate (n - (dg m).length) 48 ++ dg m
theorem pad_step {n m d : Nat} (hn : 1 ≤ n) (h : d < 10) : pad (n + 1) (10 * m + d) = pad n m ++ [48 + d] := by
  unfold pad
  rcases Nat.eq_zero_or_pos m with h0 | h0
  · subst h0
    rw [Nat.mul_zero, Nat.zero_add, dg_small h, dg_small (by decide)]
    simp only [List.length_singleton, Nat.add_sub_cancel]
    obtain ⟨k, rfl⟩ : ∃ k, n = k + 1 := ⟨n - 1, by omega⟩
    rw [Nat.add_sub_cancel, List.replicate_succ', Nat.add_zero]
  · rw [dg_step h0 h]
    simp only [List.length_append, List.length_singleton]
    rw [Nat.add_sub_add_right, List.append_assoc]
theorem pad_all : ∀ (ds : List Nat) (n m : Nat), 1 ≤ n → (∀ d ∈ ds, d < 10) → pad (n + ds.length) (ds.foldl (fun a d => 10 * a + d) m) = pad n m ++ ds.map (48 + ·)
  | [], n, m, _, _ => by simp
  | d :: ds, n, m, hn, h => by
    have ih := pad_all ds (n + 1) (10 * m + d) (by omega) fun x hx => h x (.tail _ hx)
    rw [List.foldl_cons, List.length_cons, show n + (ds.length + 1) = n + 1 + ds.length by omega, ih, pad_step hn (h d (.head _))]
    simp
theorem pad_one (m : Nat) : pad 1 m = dg m := by
  unfold pad
  have := dg_pos m
  rw [show 1 - (dg m).length = 0 by omega]
  simp
theorem zero_one : Str.ofString "0" = ⟨#[48]⟩ := by decide +kernel
theorem dot_one : (Str.ofString ".").cps.toList = [46] := by decide +kernel
theorem cps_app (x y : Str) : (x ++ y).cps.toList = x.cps.toList ++ y.cps.toList := by rw [Str.cps_append]; simp
theorem decT_list {v p : Nat} (hp : 0 < p) : (decT (v : Int) (p : Int)).cps.toList = (pad (p + 1) v).take ((pad (p + 1) v).length - p) ++ [46] ++ (pad (p + 1) v).drop ((pad (p + 1) v).length - p) := by
  have hz : (Txt.mul (Str.ofString "0") ((p : Int) + 1 - ↑(Str.ofString (toString (v : Int))).length) ++ Str.ofString (toString (v : Int))).cps.toList = pad (p + 1) v := by
    rw [cps_app, zero_one, mul_one_list, dg_text]
    have hl : (Str.ofString (toString (v : Int))).length = (dg v).length := by rw [← dg_text]; simp [Str.length]
    rw [hl]
    unfold pad
    congr 2
    omega
  unfold decT
  rw [if_neg (by omega)]
  generalize Txt.mul (Str.ofString "0") ((p : Int) + 1 - ↑(Str.ofString (toString (v : Int))).length) ++ Str.ofString (toString (v : Int)) = z at hz
  have hzl : z.length = (pad (p + 1) v).length := by rw [← hz]; simp [Str.length]
  have hle : p ≤ z.length := by
    rw [hzl]
    unfold pad
    simp only [List.length_append, List.length_replicate]
    omega
  have e : ((z.length : Nat) : Int) - (p : Int) = ((z.length - p : Nat) : Int) := by omega
  rw [e, cps_app, cps_app, slice_take z (Nat.sub_le _ _), slice_drop z (Nat.sub_le _ _), hz, hzl, dot_one]
theorem decT_digits {w : Nat} {ds : List Nat} (hd : ∀ d ∈ ds, d < 10) (h0 : 0 < ds.length) : (decT ((ds.foldl (fun a d => 10 * a + d) w : Nat) : Int) ((ds.length : Nat) : Int)).cps.toList = dg w ++ [46] ++ ds.map (48 + ·) := by
  have hz := pad_all ds 1 w (Nat.le_refl _) hd
  rw [pad_one, Nat.add_comm] at hz
  rw [decT_list h0, hz]
  have e : (dg w ++ ds.map (48 + ·)).length - ds.length = (dg w).length := by simp
  rw [e, List.take_left, List.drop_left]
theorem join_list_eq (ys : List Str) : (Txt.join (Str.ofString "") ys).cps.toList = (ys.map (·.cps.toList)).flatten := by
  show (Builtin.Str.glued (Str.ofString "") ys).cps.toList = _
  rw [StrLaws.glued_eq_join]
  have hz : (Str.ofString "").cps.toList = [] := by decide +kernel
  induction ys with
  | nil => rfl
  | cons a r ih =>
    cases r with
    | nil => simp [Str.join]
    | cons b r =>
      rw [join_cons_cons, cps_app, cps_app, hz, ih, List.append_nil]
      rfl
theorem str_ext {x y : Str} (h : x.cps.toList = y.cps.toList) : x = y := Str.ext' (Array.toList_inj.mp h)
theorem dec_eq {N x l : Int} {ds : List Int} (hx : 0 ≤ x) (hds : ∀ d ∈ ds, 0 ≤ d ∧ d < 10) (hl0 : 0 ≤ l) (hl1 : l < 9) (hN : N = 10 * ds.foldl (fun a d => 10 * a + d) x + (1 + l)) :
    (decT N ((ds.length + 1 : Nat) : Int) == Str.ofString (toString x) ++ Str.ofString "." ++ Txt.join (Str.ofString "") (ds.map fun d => Str.ofString (toString d)) ++ Str.ofString (toString (1 + l))) = true := by
  have key : ∀ (ds : List Int) (x : Int), 0 ≤ x → (∀ d ∈ ds, 0 ≤ d ∧ d < 10) → ds.foldl (fun a d => 10 * a + d) x = (((ds.map Int.toNat).foldl (fun a d => 10 * a + d) x.toNat : Nat) : Int) := by
    intro ds
    induction ds with
    | nil => intro x hx _; simp only [List.map_nil, List.foldl_nil]; omega
    | cons d r ih =>
      intro x hx h
      have hd := h d (.head _)
      rw [List.foldl_cons, ih _ (by omega) fun y hy => h y (.tail _ hy), List.map_cons, List.foldl_cons]
      rw [show (10 * x + d).toNat = 10 * x.toNat + d.toNat by omega]
  have e : N = (((ds.map Int.toNat ++ [(1 + l).toNat]).foldl (fun a d => 10 * a + d) x.toNat : Nat) : Int) := by
    rw [hN, key ds x hx hds, List.foldl_append]
    simp only [List.foldl_cons, List.foldl_nil]
    omega
  have hd : ∀ d ∈ ds.map Int.toNat ++ [(1 + l).toNat], d < 10 := by
    intro d h
    rcases List.mem_append.mp h with h | h
    · obtain ⟨y, hy, rfl⟩ := List.mem_map.mp h
      have := hds y hy
      omega
    · rw [List.mem_singleton.mp h]
      omega
  have hlen : (ds.map Int.toNat ++ [(1 + l).toNat]).length = ds.length + 1 := by simp
  have h := decT_digits (w := x.toNat) hd (by rw [hlen]; omega)
  rw [hlen, ← e] at h
  refine beq_iff_eq.mpr (str_ext ?_)
  rw [h, cps_app, cps_app, cps_app, dot_one, join_list_eq]
  have hX : (Str.ofString (toString x)).cps.toList = dg x.toNat := by
    obtain ⟨m, rfl⟩ := Int.eq_ofNat_of_zero_le hx
    exact dg_text m
  have hL : (Str.ofString (toString (1 + l))).cps.toList = [48 + (1 + l).toNat] := by
    obtain ⟨m, hm⟩ := Int.eq_ofNat_of_zero_le (show 0 ≤ 1 + l by omega)
    rw [hm, dg_text, dg_small (by omega), Int.toNat_natCast]
  have hD : (List.map (·.cps.toList) (ds.map fun d => Str.ofString (toString d))).flatten = (ds.map Int.toNat).map (48 + ·) := by
    clear hN e hd hlen h
    induction ds with
    | nil => rfl
    | cons d r ih =>
      have h1 := hds d (.head _)
      simp only [List.map_cons, List.flatten_cons]
      rw [ih fun y hy => hds y (.tail _ hy)]
      obtain ⟨m, hm⟩ := Int.eq_ofNat_of_zero_le h1.1
      rw [hm, dg_text, dg_small (by omega), Int.toNat_natCast]
      rfl
  rw [hX, hL, hD, List.map_append]
  simp
theorem dec_eq0 {N x : Int} (h : N = x) : (decT N ((0 : Nat) : Int) == Str.ofString (toString x)) = true := by
  rw [h, decT, if_pos (by rfl)]
  exact beq_self_eq_true _
theorem low_nat {n p : Nat} (hl : p = 0 ∨ n % 10 ≠ 0) : (n / Nat.gcd n (10 ^ p) * 10 ^ p) % (10 ^ p / Nat.gcd n (10 ^ p)) = 0 ∧ (∀ j, j < p → (n / Nat.gcd n (10 ^ p) * 10 ^ j) % (10 ^ p / Nat.gcd n (10 ^ p)) ≠ 0) ∧ (10 ^ p / Nat.gcd n (10 ^ p) = 1 → p = 0) ∧
    (n / Nat.gcd n (10 ^ p) * 10 ^ p) / (10 ^ p / Nat.gcd n (10 ^ p)) = n ∧ 0 < 10 ^ p / Nat.gcd n (10 ^ p) ∧ 10 ^ p / Nat.gcd n (10 ^ p) ≤ 10 ^ p ∧ n / Nat.gcd n (10 ^ p) ≤ n := by
  have hD : 0 < 10 ^ p := Nat.pow_pos (by decide)
  have hg : 0 < Nat.gcd n (10 ^ p) := Nat.gcd_pos_of_pos_right _ hD
  obtain ⟨T, hT⟩ := Nat.gcd_dvd_left n (10 ^ p)
  obtain ⟨B, hB⟩ := Nat.gcd_dvd_right n (10 ^ p)
  have eT : n / Nat.gcd n (10 ^ p) = T := Nat.div_eq_of_eq_mul_right hg hT
  have eB : 10 ^ p / Nat.gcd n (10 ^ p) = B := Nat.div_eq_of_eq_mul_right hg hB
  rw [eT, eB]
  generalize Nat.gcd n (10 ^ p) = g at *
  have hBp : 0 < B := Nat.pos_of_ne_zero fun h => by rw [h, Nat.mul_zero] at hB; omega
  have e1 : T * 10 ^ p = n * B := by rw [hB, hT]; ac_rfl
  have ten : ∀ j, j < p → B ∣ T * 10 ^ j → 10 ∣ n := by
    intro j hj ⟨k, hk⟩
    have h1 : 10 ^ p * k = n * 10 ^ j := by
      rw [hB]; conv => rhs; rw [hT]
      calc g * B * k = g * (B * k) := by ac_rfl
        _ = g * (T * 10 ^ j) := by rw [hk]
        _ = g * T * 10 ^ j := by ac_rfl
    obtain ⟨i, rfl⟩ : ∃ i, p = j + 1 + i := ⟨p - (j + 1), by omega⟩
    have h2 : 10 ^ j * (10 * (10 ^ i * k)) = 10 ^ j * n := by
      calc 10 ^ j * (10 * (10 ^ i * k)) = 10 ^ (j + 1 + i) * k := by rw [Nat.pow_add, Nat.pow_add, Nat.pow_one]; ac_rfl
        _ = n * 10 ^ j := h1
        _ = 10 ^ j * n := by ac_rfl
    exact ⟨10 ^ i * k, (Nat.eq_of_mul_eq_mul_left (Nat.pow_pos (by decide)) h2).symm⟩
  refine ⟨by rw [e1]; exact Nat.mul_mod_left _ _, fun j hj h => ?_, fun h => ?_, by rw [e1]; exact Nat.mul_div_cancel _ hBp, hBp, by rw [hB]; exact Nat.le_mul_of_pos_left _ hg, by rw [hT]; exact Nat.le_mul_of_pos_left _ hg⟩
  · have := ten j hj (Nat.dvd_of_mod_eq_zero h)
    rcases hl with h0 | h0
    · omega
    · exact h0 (Nat.mod_eq_zero_of_dvd this)
  · rcases Nat.eq_zero_or_pos p with h0 | h0
    · exact h0
    · have := ten 0 h0 (by rw [h]; exact Nat.one_dvd _)
      rcases hl with h1 | h1
      · exact h1
      · exact absurd (Nat.mod_eq_zero_of_dvd this) h1
theorem low_shown {N b : Int} {p : Nat} (hb : b = 10 ^ p) (hp : p ≤ 5) (h0 : 0 ≤ N) (h1 : N < 10000000000) (hl : p = 0 ∨ N % 10 ≠ 0) : Shown (N.fdiv (Int.gcd N b : Nat)) (b.fdiv (Int.gcd N b : Nat)) (p : Int) N := by
  obtain ⟨n, rfl⟩ := Int.eq_ofNat_of_zero_le h0
  subst hb
  have ep : (10 : Int) ^ p = ((10 ^ p : Nat) : Int) := by simp
  rw [ep, Int.gcd_natCast_natCast]
  obtain ⟨a1, a2, a3, a4, a5, a6, a7⟩ := low_nat (n := n) (p := p) (by omega)
  have hD : 10 ^ p ≤ 100000 := Nat.le_trans (Nat.pow_le_pow_right (by decide) hp) (by decide)
  generalize Nat.gcd n (10 ^ p) = g at *
  rw [Int.fdiv_eq_ediv_of_nonneg _ (by omega), Int.fdiv_eq_ediv_of_nonneg _ (by omega), ← Int.natCast_ediv, ← Int.natCast_ediv]
  generalize n / g = T at *
  generalize 10 ^ p / g = B at *
  have cast : ∀ j : Nat, ((T : Int) * 10 ^ j).fmod (B : Int) = ((T * 10 ^ j % B : Nat) : Int) := by
    intro j
    rw [Int.fmod_eq_emod_of_nonneg _ (by omega)]
    simp
  refine ⟨by omega, by omega, by omega, ?_, by omega, by omega, ?_, ?_, ?_, ?_, by omega, by omega⟩
  · have h40 : (2 : Nat) ^ 40 = 1099511627776 := by decide
    have : ((B : Nat) : Int).natAbs.log2 < 40 := (Nat.log2_lt (by omega)).mpr (by omega)
    omega
  · rw [Int.toNat_natCast, cast, a1]; rfl
  · intro j hj0 hj1
    rw [cast]
    have := a2 j.toNat (by omega)
    omega
  · intro h
    have := a3 (by omega)
    omega
  · rw [Int.toNat_natCast, Int.fdiv_eq_ediv_of_nonneg _ (by omega)]
    have : (T : Int) * 10 ^ p / (B : Int) = ((T * 10 ^ p / B : Nat) : Int) := by simp
    rw [this, a4]
end
theorem rows_c5 : True := by
  k_with_none
  (k_with "ite" => first | with_reducible refine ite_tt ?_ | with_reducible refine ite_ff ?_)
  (k_with "mem" => first | with_reducible assumption | ((fail_if_success (refine' List.Mem.tail _ ?_)); assumption))
  (k_with "room" => ((try simp only [depth_mark, depth_under_make, depth_under_kw, depth_in1, depth_deeper, depth_caller]); (try dsimp only [ktrTop]); (first | exact room0 (by with_reducible assumption) | exact room1 (by with_reducible assumption) (by decide) | exact room2 (by with_reducible assumption) (by decide) | exact room3 (by with_reducible assumption) (by decide) | omega)))
  (k_with "units" => ((try simp only [units_in1, units_deeper, Around.mark_units, units_caller]); (try dsimp only [ktrTop]); (first | exact room0 (by with_reducible assumption) | exact room1 (by with_reducible assumption) (by decide) | exact room2 (by with_reducible assumption) (by decide) | exact room3 (by with_reducible assumption) (by decide) | omega)))
  (k_with "ne" => (refine neN ?_; first | exact ne0 (by with_reducible assumption) | exact ne1 (by with_reducible assumption) | exact ne2 (by with_reducible assumption) | exact ne3 (by with_reducible assumption) | exact ne4 (by with_reducible assumption) | exact ne5 (by with_reducible assumption) | ((try dsimp only); omega)))
  (k_with "subscriptTail Name Constant ref int" => (k_here; k_dflt (refine item_listL (News.isList (by k_asm) (by k_mem)) (by decide) (by decide) (by exact rfl) ?_ (by with_unfolding_all rfl) (by intro _; with_unfolding_all rfl); k_whole)))
  (k_with "subscriptTail Name Name ref int" => (k_here; k_dflt (refine item_listL (News.isList (by k_asm) (by k_mem)) (by decide) (by decide) (by exact rfl) ?_ (by with_unfolding_all rfl) (by intro _; with_unfolding_all rfl); k_whole)))
  trivial
section
theorem cop_no {V B : Nat} (hc : Nat.Coprime B 10) (hn : ¬ B ∣ V) (n : Nat) : ¬ B ∣ V * 10 ^ n := fun h => hn ((Nat.Coprime.pow_right n hc).dvd_of_dvd_mul_right h)
theorem no_of_nat {V B : Nat} {b : Int} (hb : b = (B : Int)) (h : ∀ n, n ≤ 400 → ¬ B ∣ V * 10 ^ n) : ∀ j : Int, 0 ≤ j → j ≤ 400 → ((V : Int) * 10 ^ j.toNat).fmod b ≠ 0 := by
  intro j h0 h1 e
  subst hb
  rw [Int.fmod_eq_emod_of_nonneg _ (by omega)] at e
  have e2 : (((V * 10 ^ j.toNat % B : Nat)) : Int) = 0 := by rw [← e]; simp
  exact h j.toNat (by omega) (Nat.dvd_of_mod_eq_zero (by omega))
theorem no_third : ∀ j : Int, 0 ≤ j → j ≤ 400 → ((1 : Int) * 10 ^ j.toNat).fmod 3 ≠ 0 := no_of_nat (V := 1) (B := 3) rfl fun n _ => cop_no (by decide) (by decide) n
theorem no_seventh : ∀ j : Int, 0 ≤ j → j ≤ 400 → ((22 : Int) * 10 ^ j.toNat).fmod 7 ≠ 0 := no_of_nat (V := 22) (B := 7) rfl fun n _ => cop_no (by decide) (by decide) n
theorem no_ten {k : Int} (hk : 400 < k) : ∀ j : Int, 0 ≤ j → j ≤ 400 → ((1 : Int) * 10 ^ j.toNat).fmod (10 ^ k.toNat) ≠ 0 := no_of_nat (V := 1) (B := 10 ^ k.toNat) (by simp) fun n hn h => by
  rw [Nat.one_mul] at h
  have h1 := Nat.le_of_dvd (Nat.pow_pos (by decide)) h
  have h2 : 10 ^ n < 10 ^ k.toNat := Nat.pow_lt_pow_right (by decide) (by omega)
  omega
theorem no_two {k : Int} (hk : 400 < k) : ∀ j : Int, 0 ≤ j → j ≤ 400 → ((7 : Int) * 10 ^ j.toNat).fmod (2 ^ k.toNat) ≠ 0 := no_of_nat (V := 7) (B := 2 ^ k.toNat) (by simp) fun n hn h => by
  obtain ⟨i, hi⟩ : ∃ i, k.toNat = n + 1 + i := ⟨k.toNat - (n + 1), by omega⟩
  rw [hi] at h
  obtain ⟨k, hk⟩ := h
  have e : 2 ^ n * (2 * (2 ^ i * k)) = 2 ^ n * (7 * 5 ^ n) := by
    calc 2 ^ n * (2 * (2 ^ i * k)) = 2 ^ (n + 1 + i) * k := by rw [Nat.pow_add, Nat.pow_add, Nat.pow_one]; ac_rfl
      _ = 7 * 10 ^ n := hk.symm
      _ = 7 * (2 ^ n * 5 ^ n) := by rw [← Nat.mul_pow]
      _ = 2 ^ n * (7 * 5 ^ n) := by ac_rfl
  have e2 := Nat.eq_of_mul_eq_mul_left (Nat.pow_pos (by decide)) e
  have h5 : 5 ^ n % 2 = 1 := by rw [Nat.pow_mod]; simp
  omega
theorem big_pos {b k : Int} (hb : 0 < b) : 0 < b ^ k.toNat := Int.pow_pos hb
theorem big_ne {b k : Int} (hb : 1 < b) (hk : 0 < k) : b ^ k.toNat ≠ 1 := by
  obtain ⟨n, hn⟩ : ∃ n, k.toNat = n + 1 := ⟨k.toNat - 1, by omega⟩
  obtain ⟨c, rfl⟩ := Int.eq_ofNat_of_zero_le (show 0 ≤ b by omega)
  have h1 : 1 < c ^ (n + 1) := Nat.one_lt_pow (by omega) (by omega)
  rw [hn]
  intro h
  have h2 : ((c ^ (n + 1) : Nat) : Int) = 1 := by rw [← h]; simp
  omega
theorem shown_far {k : Int} (h0 : 0 < k) (hk : k ≤ 400) : Shown 1 (10 ^ k.toNat) k 1 := by
  obtain ⟨p, rfl⟩ := Int.eq_ofNat_of_zero_le (show 0 ≤ k by omega)
  rw [Int.toNat_natCast]
  have ep : (10 : Int) ^ p = ((10 ^ p : Nat) : Int) := by simp
  rw [ep]
  have hp : (0 : Nat) < 10 ^ p := Nat.pow_pos (by decide)
  have h1 : (1 : Nat) < 10 ^ p := Nat.one_lt_pow (by omega) (by decide)
  have hl : (((10 ^ p : Nat) : Int)).natAbs.log2 < 9000 := by
    rw [Int.natAbs_natCast]
    have h2 : (10 : Nat) ^ p < 2 ^ (4 * p) := by rw [Nat.pow_mul]; exact Nat.pow_lt_pow_left (by decide) (by omega)
    have := (Nat.log2_lt (by omega)).mpr h2
    omega
  have cast : ∀ j : Nat, ((1 : Int) * 10 ^ j) = ((10 ^ j : Nat) : Int) := by intro j; simp
  have key : ∀ j : Nat, j < p → 10 ^ j % 10 ^ p ≠ 0 := by
    intro j hj h
    have h2 : 10 ^ j < 10 ^ p := Nat.pow_lt_pow_right (by decide) hj
    have h3 : 0 < 10 ^ j := Nat.pow_pos (by decide)
    rw [Nat.mod_eq_of_lt h2] at h
    omega
  generalize hD : 10 ^ p = D at *
  refine ⟨by decide, by decide, by omega, hl, by omega, by omega, ?_, ?_, fun h => by omega, ?_, by decide, by decide⟩
  · rw [Int.toNat_natCast, cast, hD, Int.fmod_eq_emod_of_nonneg _ (by omega)]
    exact Int.emod_self
  · intro j h0 h2 e
    rw [cast, Int.fmod_eq_emod_of_nonneg _ (by omega)] at e
    have := key j.toNat (by omega)
    omega
  · rw [Int.toNat_natCast, cast, hD, Int.fdiv_eq_ediv_of_nonneg _ (by omega)]
    exact Int.ediv_self (by omega)
theorem dec_far {k l : Int} (h0 : 0 < k) (hl : l = k - 1) : (decT 1 k == Str.ofString "0." ++ Txt.mul (Str.ofString "0") l ++ Str.ofString "1") = true := by
  obtain ⟨p, rfl⟩ := Int.eq_ofNat_of_zero_le (show 0 ≤ k by omega)
  have h := decT_list (v := 1) (p := p) (by omega)
  have hp : pad (p + 1) 1 = List.replicate p 48 ++ [49] := by
    unfold pad
    rw [dg_small (by decide)]
    simp
  have hl2 : (List.replicate p 48 ++ [49]).length - p = 1 := by simp
  rw [hp, hl2] at h
  have e : (Str.ofString "0.").cps.toList = [48, 46] := by decide +kernel
  have e1 : (Str.ofString "1").cps.toList = [49] := by decide +kernel
  refine beq_iff_eq.mpr (str_ext ?_)
  rw [cps_app, cps_app, e, e1, zero_one, mul_one_list]
  obtain ⟨q, rfl⟩ : ∃ q, p = q + 1 := ⟨p - 1, by omega⟩
  have el : l.toNat = q := by omega
  rw [el]
  rw [List.replicate_succ] at h
  simpa using h
end
theorem rows_c6 : True := by
  k_with_none
  (k_with "ite" => first | with_reducible refine ite_tt ?_ | with_reducible refine ite_ff ?_)
  (k_with "mem" => first | with_reducible assumption | ((fail_if_success (refine' List.Mem.tail _ ?_)); assumption))
  (k_with "room" => ((try simp only [depth_mark, depth_under_make, depth_under_kw, depth_in1, depth_deeper, depth_caller]); (try dsimp only [ktrTop]); (first | exact room0 (by with_reducible assumption) | exact room1 (by with_reducible assumption) (by decide) | exact room2 (by with_reducible assumption) (by decide) | exact room3 (by with_reducible assumption) (by decide) | omega)))
  (k_with "units" => ((try simp only [units_in1, units_deeper, Around.mark_units, units_caller]); (try dsimp only [ktrTop]); (first | exact room0 (by with_reducible assumption) | exact room1 (by with_reducible assumption) (by decide) | exact room2 (by with_reducible assumption) (by decide) | exact room3 (by with_reducible assumption) (by decide) | omega)))
  (k_with "ne" => (refine neN ?_; first | exact ne0 (by with_reducible assumption) | exact ne1 (by with_reducible assumption) | exact ne2 (by with_reducible assumption) | exact ne3 (by with_reducible assumption) | exact ne4 (by with_reducible assumption) | exact ne5 (by with_reducible assumption) | ((try dsimp only); omega)))
  (k_with "subscriptTail Name Constant ref int" => (k_here; k_dflt (refine item_listL (News.isList (by k_asm) (by k_mem)) (by decide) (by decide) (by exact rfl) ?_ (by with_unfolding_all rfl) (by intro _; with_unfolding_all rfl); k_whole)))
  (k_with "subscriptTail Name Name ref int" => (k_here; k_dflt (refine item_listL (News.isList (by k_asm) (by k_mem)) (by decide) (by decide) (by exact rfl) ?_ (by with_unfolding_all rfl) (by intro _; with_unfolding_all rfl); k_whole)))
  trivial
section
section
set_option maxHeartbeats 2000000 in
theorem pool_use {prog : Program} {w : World} {p : Program} {loose : List Str} {mean : ExcName → Option Value} {mg mb : Str → Option Value} {dp un : Nat} {gd : Option (List Code)} {cn : Str} {cs : Scope} {a : Addr} {ccd : Value} {cl : List (Str × Addr)} {outer : List Env} {A₀ : Around} {base h₀ : Heap} {L : Addr} {m : Str → Option Value} {news : List (Addr × Obj)} {s : Shared} {l : Addr} {vs : List Value} {ns : List Int} {Q E : Value → Shared → Prop}
    (B : Below A₀ base outer h₀) (F : Fr h₀ L s.heap m) (X : (hd.heap_39 w.params).In h₀) (N : News h₀ L s.heap news) (T : Top p loose mean mg mb h₀) (hk : cs.kind = .function) (hl : base.IsList l vs.toArray) (hi : IntsAre vs ns) (hfit : ns.length < 2 ^ 62) (hdp : dp + 2 < recursionLimit) (hu : un + 16 < cLine)
    (hret : ∀ (v : Value) (news' : List (Addr × Obj)) (h' : Heap) (tk' : Nat), (∃ r o, v = .ref r ∧ SrcOk o ∧ news' = (r, o) :: news ∧ ∀ q ∈ news, q.1 < r) → Fr h₀ L h' m → News h₀ L h' news' → Q v { s with heap := h', toks := tk' }) :
    wpAny (model prog w) (ktrTop dp un gd cn cs L a ccd cl outer) (call (.ref 340) [.ref l]) Q E s := by
  refine wpAny_call ?_
  k_dflt cell_enter
  repeat' (first | (k_unfold; (try dsimp only)) | ((fail_if_success (with_reducible show Q _ _)); first | walk1 | (dsimp only; walk1) | (leave1; walk_say "STEP leave1"; (try dsimp only))))
  all_goals (refine hret _ _ _ _ ⟨_, _, rfl, ⟨_, _, _, _, _, rfl, ?_, ?_, ?_⟩, rfl, by assumption⟩ (by k_asm) (by k_asm))
  all_goals first | exact fmod_lo _ (by decide) | exact fmod_hi _ (by decide) | omega
end
end
theorem rows_c7 : True := by
  k_with_none
  (k_with "ite" => first | with_reducible refine ite_tt ?_ | with_reducible refine ite_ff ?_)
  (k_with "mem" => first | with_reducible assumption | ((fail_if_success (refine' List.Mem.tail _ ?_)); assumption))
  (k_with "room" => ((try simp only [depth_mark, depth_under_make, depth_under_kw, depth_in1, depth_deeper, depth_caller]); (try dsimp only [ktrTop]); (first | exact room0 (by with_reducible assumption) | exact room1 (by with_reducible assumption) (by decide) | exact room2 (by with_reducible assumption) (by decide) | exact room3 (by with_reducible assumption) (by decide) | omega)))
  (k_with "units" => ((try simp only [units_in1, units_deeper, Around.mark_units, units_caller]); (try dsimp only [ktrTop]); (first | exact room0 (by with_reducible assumption) | exact room1 (by with_reducible assumption) (by decide) | exact room2 (by with_reducible assumption) (by decide) | exact room3 (by with_reducible assumption) (by decide) | omega)))
  (k_with "ne" => (refine neN ?_; first | exact ne0 (by with_reducible assumption) | exact ne1 (by with_reducible assumption) | exact ne2 (by with_reducible assumption) | exact ne3 (by with_reducible assumption) | exact ne4 (by with_reducible assumption) | exact ne5 (by with_reducible assumption) | ((try dsimp only); omega)))
  (k_with "subscriptTail Name Constant ref int" => (k_here; k_dflt (refine item_listL (News.isList (by k_asm) (by k_mem)) (by decide) (by decide) (by exact rfl) ?_ (by with_unfolding_all rfl) (by intro _; with_unfolding_all rfl); k_whole)))
  (k_with "subscriptTail Name Name ref int" => (k_here; k_dflt (refine item_listL (News.isList (by k_asm) (by k_mem)) (by decide) (by decide) (by exact rfl) ?_ (by with_unfolding_all rfl) (by intro _; with_unfolding_all rfl); k_whole)))
  (k_with "call ref" => (k_here; (with_reducible show wpAny _ _ (call (Value.ref 347) [Value.ref _, Value.int _ _]) _ _ _); k_dflt (refine take_use (by k_asm) (by k_asm) (by k_asm) (by k_asm) (by k_asm) (by first | exact rfl | assumption) (by k_updF) (by assumption) (by first | decide | omega) (by first | decide | omega) (by ktr_room) (by ktr_units) ?_); intro r9 t9 o9 h9 tk9 hlo9 hhi9 hs9 F9 N9; (try dsimp only at N9 hhi9 ⊢); (try k_fold)))
  trivial
section
theorem pick {vs : List Value} {r : Int} (h0 : 0 ≤ r) (h1 : r < (vs.length : Int)) : ∃ x, vs[r.toNat]? = some x ∧ x ∈ vs := by
  have h : r.toNat < vs.length := by omega
  exact ⟨vs[r.toNat], List.getElem?_eq_getElem h, List.getElem_mem h⟩
theorem len_L {prog : Program} {w : World} {A : Around} {E : Value → Shared → Prop} {s : Shared} {l : Addr} {vs : List Value} {Q : Value → Shared → Prop} (hl : s.heap.IsList l vs.toArray) (hfit : vs.length < 1000)
    (h : Q (.int vs.length (s.toks + 1)) { s with toks := s.toks + 1 + 1 }) : wpAny (model prog w) A (call (.builtin "len") [.ref l]) Q E s :=
  len_list hl (by simp only [List.size_toArray]; omega) (by simpa using h)
section
theorem rows_c7_3 : True := by
  (k_with "call builtin:len" => (k_here; (refine len_L (News.isList (by k_asm) (by k_mem)) (by assumption) ?_)))
  trivial
set_option maxHeartbeats 2000000 in
theorem one_spec {prog : Program} {w : World} {p : Program} {loose : List Str} {mean : ExcName → Option Value} {mg mb : Str → Option Value} {src t : Addr} {o : Obj} {news : List (Addr × Obj)} {g : Obj → List (Addr × Obj)} {vs : List Value} {n : Nat}
    (U : UpdF src o news g) (ho : SrcOk o) (ht : (t, listOf vs.toArray n) ∈ news) (hne : t ≠ src) (h0 : 0 < vs.length) (h1 : vs.length < 1000) :
    Spec prog w p loose mean mg mb 354 [.ref src, .ref t] news 2 16 (fun v news' => v ∈ vs ∧ ∃ o', SrcOk o' ∧ news' = g o') := by
  obtain ⟨pre, post, rfl, hg, hpre, hpost⟩ := U.split
  clear U
  have hap := apart hpre hpost
  have ht' : (t, listOf vs.toArray n) ∈ pre ++ post := by
    rcases List.mem_cons.mp (from_front _ ht) with h | h
    · exact absurd (congrArg Prod.fst h) hne
    · exact h
  intro dp un gd cn cs a ccd cl outer A₀ base h₀ L m s Q E B F X N T hk hd hu hret
  replace N := news_perm N to_front
  generalize hrest : pre ++ post = rest at hap N ht'
  refine wpAny_call ?_
  k_dflt cell_enter
  k_steps
  obtain ⟨x, hx, hm⟩ := pick (vs := vs) (by assumption) (by assumption)
  k_here
  refine' item_listL (News.isList (items := vs.toArray) ?N ?m) ?a ?b hx ?_ ?d ?e
  case N => k_asm
  case m => exact List.mem_cons_of_mem _ ht'
  case a => assumption
  case b => omega
  case d => with_unfolding_all rfl
  case e => intro _; with_unfolding_all rfl
  k_steps
  all_goals (subst hrest; refine hret _ _ _ _ ⟨hm, _, by assumption, rfl⟩ (by k_asm) (by rw [hg]; exact news_perm (by assumption) from_front))
end
theorem one_use {prog : Program} {w : World} {p : Program} {loose : List Str} {mean : ExcName → Option Value} {mg mb : Str → Option Value} {src : Addr} {o : Obj} {news : List (Addr × Obj)} {g : Obj → List (Addr × Obj)} {t : Addr} {vs : List Value} {n : Nat} {dp un : Nat} {gd : Option (List Code)} {cn : Str} {cs : Scope} {a : Addr} {ccd : Value} {cl : List (Str × Addr)} {outer : List Env} {A₀ : Around} {base h₀ : Heap} {L : Addr} {m : Str → Option Value} {s : Shared} {Q E : Value → Shared → Prop}
    (B : Below A₀ base outer h₀) (F : Fr h₀ L s.heap m) (X : (hd.heap_39 w.params).In h₀) (N : News h₀ L s.heap news) (T : Top p loose mean mg mb h₀) (hk : cs.kind = .function) (U : UpdF src o news g) (ho : SrcOk o) (ht : (t, listOf vs.toArray n) ∈ news) (hne : t ≠ src) (h0 : 0 < vs.length) (h1 : vs.length < 1000) (hdp : dp + 2 < recursionLimit) (hun : un + 16 < cLine)
    (ret : ∀ (v : Value) (o' : Obj) (h' : Heap) (tk' : Nat), v ∈ vs → SrcOk o' → Fr h₀ L h' m → News h₀ L h' (g o') → Q (v) { s with heap := h', toks := tk' }) :
    wpAny (model prog w) (ktrTop dp un gd cn cs L a ccd cl outer) (call (.ref 354) [.ref src, .ref t]) Q E s := Spec.use (one_spec U ho ht hne h0 h1) B F X N T hk hdp hun fun v nn h' tk' hp F' N' => by
  obtain ⟨a1, o', a2, e2⟩ := hp
  subst e2; exact ret v o' h' tk' a1 a2 F' N'
end
section
theorem rows_c8 : True := by
  k_with_none
  (k_with "ite" => first | with_reducible refine ite_tt ?_ | with_reducible refine ite_ff ?_)
  (k_with "mem" => first | with_reducible assumption | ((fail_if_success (refine' List.Mem.tail _ ?_)); assumption))
  (k_with "room" => ((try simp only [depth_mark, depth_under_make, depth_under_kw, depth_in1, depth_deeper, depth_caller]); (try dsimp only [ktrTop]); (first | exact room0 (by with_reducible assumption) | exact room1 (by with_reducible assumption) (by decide) | exact room2 (by with_reducible assumption) (by decide) | exact room3 (by with_reducible assumption) (by decide) | omega)))
  (k_with "units" => ((try simp only [units_in1, units_deeper, Around.mark_units, units_caller]); (try dsimp only [ktrTop]); (first | exact room0 (by with_reducible assumption) | exact room1 (by with_reducible assumption) (by decide) | exact room2 (by with_reducible assumption) (by decide) | exact room3 (by with_reducible assumption) (by decide) | omega)))
  (k_with "ne" => (refine neN ?_; first | exact ne0 (by with_reducible assumption) | exact ne1 (by with_reducible assumption) | exact ne2 (by with_reducible assumption) | exact ne3 (by with_reducible assumption) | exact ne4 (by with_reducible assumption) | exact ne5 (by with_reducible assumption) | ((try dsimp only); omega)))
  (k_with "subscriptTail Name Constant ref int" => (k_here; k_dflt (refine item_listL (News.isList (by k_asm) (by k_mem)) (by decide) (by decide) (by exact rfl) ?_ (by with_unfolding_all rfl) (by intro _; with_unfolding_all rfl); k_whole)))
  (k_with "subscriptTail Name Name ref int" => (k_here; k_dflt (refine item_listL (News.isList (by k_asm) (by k_mem)) (by decide) (by decide) (by exact rfl) ?_ (by with_unfolding_all rfl) (by intro _; with_unfolding_all rfl); k_whole)))
  (k_with "call ref" => (k_here; (with_reducible show wpAny _ _ (call (Value.ref 347) [Value.ref _, Value.int _ _]) _ _ _); k_dflt (refine take_use (by k_asm) (by k_asm) (by k_asm) (by k_asm) (by k_asm) (by first | exact rfl | assumption) (by k_updF) (by assumption) (by first | decide | omega) (by first | decide | omega) (by ktr_room) (by ktr_units) ?_); intro r9 t9 o9 h9 tk9 hlo9 hhi9 hs9 F9 N9; (try dsimp only at N9 hhi9 ⊢); (try k_fold)))
  (k_with "ke_room" => ktr_units)
  (k_with "compareOp Eq ref ref" => (k_here; k_dflt (refine tup_eq0 (News.isTup (by k_asm) (by k_mem)) (News.isTup (by k_asm) (by k_mem)) (by ktr_units) (by exact Nat.succ_ne_zero _) ?_)))
  (k_with "compareOp Eq ref" => (k_here; (with_reducible show wpAny _ _ (compareOp CmpOp.Eq (Value.ref _) (Value.str _ _)) _ _ _); k_dflt (refine eq_var_str (by k_asm) (by k_asm) (by k_asm) (by k_mem) (by ktr_units) ?_)))
  trivial
section
theorem tup_eq0 {prog : Program} {w : World} {A : Around} {E : Value → Shared → Prop} {s : Shared} {a b : Addr} {vs : List Value} {Q : Value → Shared → Prop} (ha : IsTup s.heap a vs.toArray) (hb : IsTup s.heap b ([] : List Value).toArray) (hu : A.units < cLine) (hn : vs.length ≠ 0)
    (h : Q (.bool false) s) : wpAny (model prog w) A (compareOp .Eq (.ref a) (.ref b)) Q E s := by
  refine PySem.SeqAt.RcAt.tuples (e := fun _ => true) ha hb hu (fun j h1 h2 => absurd h2 (by simp)) prog w E Q ?_
  have e : (((List.range (min vs.toArray.size ([] : List Value).toArray.size)).all fun _ => true) && vs.toArray.size == ([] : List Value).toArray.size) = false := by
    cases vs with
    | nil => exact absurd rfl hn
    | cons v r => simp
  rw [e]; exact h
theorem str_not_ref (C : Addr) : isSubtype (.type "str") (.ref C) = pure false := by
  rw [isSubtype_type, show fastBuiltinMro "str" = some [.type "str", .type "object"] from by kernel_rfl]
  simp
set_option maxHeartbeats 1000000 in
theorem eq_inst_str {prog : Program} {w : World} {A : Around} {E : Value → Shared → Prop} {h : Heap} {g : Array GenState} {d : Drawn} {t : Nat} {os : OsState} {x C dx : Addr}
    {nm q : Str} {N : Addr} {bs : List Value} {hdct : Bool} {sn : List Str} {sub : List Value} {ab : Bool} {col : Option Bool} {dd : Option Addr} {k0 k1 k2 k3 k5 : Option Value} {newId : String} {mN : Str → Option Value}
    (hx : h.get? x = some (instObj C dx)) (hC : h.get? C = some (excClassObj nm q C N bs [.type "object"] hdct sn sub ab col dd k0 k1 k2 k3 k5 newId)) (hn : h.Ns N mN) (he : mN "__eq__" = none)
    (hu : A.units + 2 < cLine) {y : Str} {ty : Tok} {Q : Value → Shared → Prop} (hq : Q (.bool false) ⟨h, g, d, t, os⟩) : wpAny (model prog w) A (compareOp .Eq (.ref x) (.str y ty)) Q E ⟨h, g, d, t, os⟩ := by
  have f1 := str_not_ref C
  have FB := F.cmp_object
  have left : ∀ {Q' : Option Value → Shared → Prop}, Q' none ⟨h, g, d, t, os⟩ → wpAny (model prog w) A (tryCompare (.ref x) "__eq__" (.str y ty)) Q' E ⟨h, g, d, t, os⟩ := by
    intro Q' hq'
    simp only [tryCompare]
    refine wpAny_bind (wpAny_callSpecialIfBound?_inst hx rfl hC hn he FB.mro FB.eq (wpAny_call (codeAny_call_builtin FB.eq.plain F.cmpEntry_eq (wpAny_check_slot_inst F.cmpKind_eq F.cmpSplit_eq (F.cmpArgs_eq _ _) FB.hasObject hx rfl hC ?_))))
    unfold Builtin.«object.__eq__»
    repeat wp_step
    exact hq'
  have right : ∀ {Q' : Option Value → Shared → Prop}, Q' none ⟨h, g, d, t, os⟩ → wpAny (model prog w) A (tryCompare (.str y ty) "__eq__" (.ref x)) Q' E ⟨h, g, d, t, os⟩ := by
    intro Q' hq'
    simp only [tryCompare]
    refine wpAny_bind (wpAny_callSpecialIfBound?_slot (T := "str") rfl F.slot_str_eq (wpAny_call_entry F.slot_str_eq rfl F.entry_str_eq ?_ (F.args_str_eq_2 _ _)))
    unfold Builtin.«str.__eq__» Builtin.Str.strCompare
    have hcS : (Value.ref C :: [Value.type "object"]).contains (.type "str") = false := by simp
    repeat (first | with_reducible refine wpAny_loadPart_at hx ?_ | (with_reducible refine wpAny_isSubtype_exc hC ?_; rw [hcS]) | wp_step)
    exact ⟨_, rfl, wpAny_pure hq'⟩
  show wpAny _ _ (richCompare .Eq (.ref x) (.str y ty)) _ _ _
  unfold richCompare
  refine wpAny_holding (wpAny_bind (wpAny_cRoomFor (by omega) ?_))
  simp only [oneThing_ref, cmpInfo]
  repeat (first | with_reducible refine left ?_ | with_reducible refine right ?_ | with_reducible refine wpAny_loadPart_at hx ?_ | wp_step)
  exact hq
theorem cls_var {w : World} {h : Heap} (X : (hd.heap_39 w.params).In h) : ∃ (nm q : Str) (N : Addr) (bs : List Value) (hdct : Bool) (sn : List Str) (sub : List Value) (ab : Bool) (col : Option Bool) (dd : Option Addr) (k0 k1 k2 k3 k5 : Option Value) (newId : String) (mN : Str → Option Value),
    h.get? 133 = some (excClassObj nm q 133 N bs [.type "object"] hdct sn sub ab col dd k0 k1 k2 k3 k5 newId) ∧ h.Ns N mN ∧ mN "__eq__" = none := by
  refine ⟨_, _, 132, _, _, _, _, _, _, _, _, _, _, _, _, _, _, X _ _ (by k_is), .of_isNs (isNs_of_in X (by kernel_rfl)), nsMap_none_of_in X (by kernel_rfl) (by k_is)⟩
theorem eq_var_str {prog : Program} {w : World} {A : Around} {E : Value → Shared → Prop} {s : Shared} {x dx L : Addr} {h₀ : Heap} {m : Str → Option Value} {news : List (Addr × Obj)} (F : Fr h₀ L s.heap m) (X : (hd.heap_39 w.params).In h₀) (N : News h₀ L s.heap news) (hx : (x, instObj 133 dx) ∈ news)
    (hu : A.units + 2 < cLine) {y : Str} {ty : Tok} {Q : Value → Shared → Prop} (hq : Q (.bool false) s) : wpAny (model prog w) A (compareOp .Eq (.ref x) (.str y ty)) Q E s := by
  obtain ⟨nm, q, N', bs, hdct, sn, sub, ab, col, dd, k0, k1, k2, k3, k5, newId, mN, hC, hn, he⟩ := cls_var (X.keeps F.keep)
  obtain ⟨h, g, d, t, os⟩ := s
  exact eq_inst_str (N.get hx) hC hn he hu hq
end
theorem rows_c9 : True := by
  k_with_none
  (k_with "ite" => first | with_reducible refine ite_tt ?_ | with_reducible refine ite_ff ?_)
  (k_with "mem" => first | with_reducible assumption | ((fail_if_success (refine' List.Mem.tail _ ?_)); assumption))
  (k_with "room" => ((try simp only [depth_mark, depth_under_make, depth_under_kw, depth_in1, depth_deeper, depth_caller]); (try dsimp only [ktrTop]); (first | exact room0 (by with_reducible assumption) | exact room1 (by with_reducible assumption) (by decide) | exact room2 (by with_reducible assumption) (by decide) | exact room3 (by with_reducible assumption) (by decide) | omega)))
  (k_with "units" => ((try simp only [units_in1, units_deeper, Around.mark_units, units_caller]); (try dsimp only [ktrTop]); (first | exact room0 (by with_reducible assumption) | exact room1 (by with_reducible assumption) (by decide) | exact room2 (by with_reducible assumption) (by decide) | exact room3 (by with_reducible assumption) (by decide) | omega)))
  (k_with "ne" => (refine neN ?_; first | exact ne0 (by with_reducible assumption) | exact ne1 (by with_reducible assumption) | exact ne2 (by with_reducible assumption) | exact ne3 (by with_reducible assumption) | exact ne4 (by with_reducible assumption) | exact ne5 (by with_reducible assumption) | ((try dsimp only); omega)))
  (k_with "subscriptTail Name Constant ref int" => (k_here; k_dflt (refine item_listL (News.isList (by k_asm) (by k_mem)) (by decide) (by decide) (by exact rfl) ?_ (by with_unfolding_all rfl) (by intro _; with_unfolding_all rfl); k_whole)))
  (k_with "subscriptTail Name Name ref int" => (k_here; k_dflt (refine item_listL (News.isList (by k_asm) (by k_mem)) (by decide) (by decide) (by exact rfl) ?_ (by with_unfolding_all rfl) (by intro _; with_unfolding_all rfl); k_whole)))
  (k_with "call ref" => (k_here; (with_reducible show wpAny _ _ (call (Value.ref 347) [Value.ref _, Value.int _ _]) _ _ _); k_dflt (refine take_use (by k_asm) (by k_asm) (by k_asm) (by k_asm) (by k_asm) (by first | exact rfl | assumption) (by k_updF) (by assumption) (by first | decide | omega) (by first | decide | omega) (by ktr_room) (by ktr_units) ?_); intro r9 t9 o9 h9 tk9 hlo9 hhi9 hs9 F9 N9; (try dsimp only at N9 hhi9 ⊢); (try k_fold)))
  (k_with "ke_room" => ktr_units)
  (k_with "compareOp Eq ref ref" => (k_here; k_dflt (refine tup_eq0 (News.isTup (by k_asm) (by k_mem)) (News.isTup (by k_asm) (by k_mem)) (by ktr_units) (by exact Nat.succ_ne_zero _) ?_)))
  (k_with "compareOp Eq ref" => (k_here; (with_reducible show wpAny _ _ (compareOp CmpOp.Eq (Value.ref _) (Value.str _ _)) _ _ _); k_dflt (refine eq_var_str (by k_asm) (by k_asm) (by k_asm) (by k_mem) (by ktr_units) ?_)))
  trivial
section
def opTab : List (PyData × PyData) := [(.str (Str.ofString "or"), .int 1), (.str (Str.ofString "and"), .int 2), (.str (Str.ofString "="), .int 3), (.str (Str.ofString "!="), .int 3), (.str (Str.ofString "+"), .int 5), (.str (Str.ofString "-"), .int 5), (.str (Str.ofString "*"), .int 6), (.str (Str.ofString "div"), .int 6), (.str (Str.ofString "mod"), .int 6), (.str (Str.ofString "|"), .int 8)]
structure LevelIs (prog : Program) (w : World) (p : Program) (loose : List Str) (mean : ExcName → Option Value) (mg mb : Str → Option Value) (nn : List (Addr × Obj)) (x : Addr) (wt : Int) : Prop where
  out : Spec prog w p loose mean mg mb 312 [.ref x] nn 2 400 (fun v n2 => (∃ t, v = .int wt t) ∧ n2 = nn)
theorem flat_int {v : Value} {i : Int} (h : PyProof.V.Flat v (.int i)) : ∃ t, v = .int i t := by
  have h' := h {}
  cases h'
  exact ⟨_, rfl⟩
set_option maxHeartbeats 1000000 in
theorem level_bin {prog : Program} {w : World} {p : Program} {loose : List Str} {mean : ExcName → Option Value} {mg mb : Str → Option Value} {news : List (Addr × Obj)} {x dx : Addr} {h1 h2 h3 : Int} {t1 t2 t3 t4 : Tok} {op : Str} {lv rv : Value} {wt : Int} (hx : (x, instObj 189 dx) ∈ news) (hdx : (dx, dictOf [⟨h1, .str (Str.ofString "op") t1, .str op t4⟩, ⟨h2, .str (Str.ofString "left") t2, lv⟩, ⟨h3, .str (Str.ofString "right") t3, rv⟩] 3) ∈ news)
    (hop : (Spec.lookup (.str op) opTab).getD (.int 4) = .int wt) :
    LevelIs prog w p loose mean mg mb news x wt := by
  refine ⟨?_⟩
  intro dp un gd cn cs a ccd cl outer A₀ base h₀ L m s Q E B F X N T hk hd hu hret
  refine wpAny_call ?_
  k_dflt cell_enter
  k_steps
  rename PyProof.V.Flat _ _ => hfl
  replace hfl : PyProof.V.Flat _ ((Spec.lookup (.str op) opTab).getD (.int 4)) := hfl
  rw [hop] at hfl
  obtain ⟨t, rfl⟩ := flat_int hfl
  all_goals exact hret _ _ _ _ ⟨⟨_, rfl⟩, rfl⟩ (by k_asm) (news_perm (by assumption) (by first | (intro p hp; exact hp) | (intro p hp; exact List.mem_cons_of_mem _ hp)))
set_option maxHeartbeats 1000000 in
theorem level_neg {prog : Program} {w : World} {p : Program} {loose : List Str} {mean : ExcName → Option Value} {mg mb : Str → Option Value} {news : List (Addr × Obj)} {x dx : Addr} {od : Obj} (hx : (x, instObj 217 dx) ∈ news) (hdx : (dx, od) ∈ news) :
    LevelIs prog w p loose mean mg mb news x 7 := by
  refine ⟨?_⟩
  intro dp un gd cn cs a ccd cl outer A₀ base h₀ L m s Q E B F X N T hk hd hu hret
  refine wpAny_call ?_
  k_dflt cell_enter
  k_steps
  all_goals exact hret _ _ _ _ ⟨⟨_, rfl⟩, rfl⟩ (by k_asm) (news_perm (by assumption) (by first | (intro p hp; exact hp) | (intro p hp; exact List.mem_cons_of_mem _ hp)))
set_option maxHeartbeats 1000000 in
theorem level_filter {prog : Program} {w : World} {p : Program} {loose : List Str} {mean : ExcName → Option Value} {mg mb : Str → Option Value} {news : List (Addr × Obj)} {x dx : Addr} {od : Obj} (hx : (x, instObj 245 dx) ∈ news) (hdx : (dx, od) ∈ news) :
    LevelIs prog w p loose mean mg mb news x 10 := by
  refine ⟨?_⟩
  intro dp un gd cn cs a ccd cl outer A₀ base h₀ L m s Q E B F X N T hk hd hu hret
  refine wpAny_call ?_
  k_dflt cell_enter
  k_steps
  all_goals exact hret _ _ _ _ ⟨⟨_, rfl⟩, rfl⟩ (by k_asm) (news_perm (by assumption) (by first | (intro p hp; exact hp) | (intro p hp; exact List.mem_cons_of_mem _ hp)))
set_option maxHeartbeats 1000000 in
theorem level_lit {prog : Program} {w : World} {p : Program} {loose : List Str} {mean : ExcName → Option Value} {mg mb : Str → Option Value} {news : List (Addr × Obj)} {x dx : Addr} {od : Obj} (hx : (x, instObj 77 dx) ∈ news) (hdx : (dx, od) ∈ news) :
    LevelIs prog w p loose mean mg mb news x 11 := by
  refine ⟨?_⟩
  intro dp un gd cn cs a ccd cl outer A₀ base h₀ L m s Q E B F X N T hk hd hu hret
  refine wpAny_call ?_
  k_dflt cell_enter
  k_steps
  all_goals exact hret _ _ _ _ ⟨⟨_, rfl⟩, rfl⟩ (by k_asm) (news_perm (by assumption) (by first | (intro p hp; exact hp) | (intro p hp; exact List.mem_cons_of_mem _ hp)))
set_option maxHeartbeats 1000000 in
theorem level_num {prog : Program} {w : World} {p : Program} {loose : List Str} {mean : ExcName → Option Value} {mg mb : Str → Option Value} {news : List (Addr × Obj)} {x dx : Addr} {od : Obj} (hx : (x, instObj 105 dx) ∈ news) (hdx : (dx, od) ∈ news) :
    LevelIs prog w p loose mean mg mb news x 11 := by
  refine ⟨?_⟩
  intro dp un gd cn cs a ccd cl outer A₀ base h₀ L m s Q E B F X N T hk hd hu hret
  refine wpAny_call ?_
  k_dflt cell_enter
  k_steps
  all_goals exact hret _ _ _ _ ⟨⟨_, rfl⟩, rfl⟩ (by k_asm) (news_perm (by assumption) (by first | (intro p hp; exact hp) | (intro p hp; exact List.mem_cons_of_mem _ hp)))
set_option maxHeartbeats 1000000 in
theorem level_var {prog : Program} {w : World} {p : Program} {loose : List Str} {mean : ExcName → Option Value} {mg mb : Str → Option Value} {news : List (Addr × Obj)} {x dx : Addr} {od : Obj} (hx : (x, instObj 133 dx) ∈ news) (hdx : (dx, od) ∈ news) :
    LevelIs prog w p loose mean mg mb news x 11 := by
  refine ⟨?_⟩
  intro dp un gd cn cs a ccd cl outer A₀ base h₀ L m s Q E B F X N T hk hd hu hret
  refine wpAny_call ?_
  k_dflt cell_enter
  k_steps
  all_goals exact hret _ _ _ _ ⟨⟨_, rfl⟩, rfl⟩ (by k_asm) (news_perm (by assumption) (by first | (intro p hp; exact hp) | (intro p hp; exact List.mem_cons_of_mem _ hp)))
set_option maxHeartbeats 1000000 in
theorem level_call {prog : Program} {w : World} {p : Program} {loose : List Str} {mean : ExcName → Option Value} {mg mb : Str → Option Value} {news : List (Addr × Obj)} {x dx : Addr} {od : Obj} (hx : (x, instObj 161 dx) ∈ news) (hdx : (dx, od) ∈ news) :
    LevelIs prog w p loose mean mg mb news x 11 := by
  refine ⟨?_⟩
  intro dp un gd cn cs a ccd cl outer A₀ base h₀ L m s Q E B F X N T hk hd hu hret
  refine wpAny_call ?_
  k_dflt cell_enter
  k_steps
  all_goals exact hret _ _ _ _ ⟨⟨_, rfl⟩, rfl⟩ (by k_asm) (news_perm (by assumption) (by first | (intro p hp; exact hp) | (intro p hp; exact List.mem_cons_of_mem _ hp)))
set_option maxHeartbeats 1000000 in
theorem level_root {prog : Program} {w : World} {p : Program} {loose : List Str} {mean : ExcName → Option Value} {mg mb : Str → Option Value} {news : List (Addr × Obj)} {x dx : Addr} {h1 h2 : Int} {t1 t2 t3 : Tok} {e : Addr} {n : Nat} (hx : (x, instObj 273 dx) ∈ news) (hdx : (dx, dictOf [⟨h1, .str (Str.ofString "start") t1, .str (Str.ofString "root") t3⟩, ⟨h2, .str (Str.ofString "steps") t2, .ref e⟩] 2) ∈ news)
    (he : (e, { cls := .type "tuple", data := .seq [].toArray n }) ∈ news) :
    LevelIs prog w p loose mean mg mb news x 0 := by
  refine ⟨?_⟩
  intro dp un gd cn cs a ccd cl outer A₀ base h₀ L m s Q E B F X N T hk hd hu hret
  refine wpAny_call ?_
  k_dflt cell_enter
  k_steps
  all_goals exact hret _ _ _ _ ⟨⟨_, rfl⟩, rfl⟩ (by k_asm) (news_perm (by assumption) (by first | (intro p hp; exact hp) | (intro p hp; exact List.mem_cons_of_mem _ hp)))
set_option maxHeartbeats 1000000 in
theorem level_path_root {prog : Program} {w : World} {p : Program} {loose : List Str} {mean : ExcName → Option Value} {mg mb : Str → Option Value} {news : List (Addr × Obj)} {x dx : Addr} {h1 h2 : Int} {t1 t2 t3 : Tok} {e st : Addr} {n : Nat} (hx : (x, instObj 273 dx) ∈ news) (hdx : (dx, dictOf [⟨h1, .str (Str.ofString "start") t1, .str (Str.ofString "root") t3⟩, ⟨h2, .str (Str.ofString "steps") t2, .ref e⟩] 2) ∈ news)
    (he : (e, { cls := .type "tuple", data := .seq [.ref st].toArray n }) ∈ news) :
    LevelIs prog w p loose mean mg mb news x 9 := by
  refine ⟨?_⟩
  intro dp un gd cn cs a ccd cl outer A₀ base h₀ L m s Q E B F X N T hk hd hu hret
  refine wpAny_call ?_
  k_dflt cell_enter
  k_steps
  all_goals exact hret _ _ _ _ ⟨⟨_, rfl⟩, rfl⟩ (by k_asm) (news_perm (by assumption) (by first | (intro p hp; exact hp) | (intro p hp; exact List.mem_cons_of_mem _ hp)))
set_option maxHeartbeats 1000000 in
theorem level_path_none {prog : Program} {w : World} {p : Program} {loose : List Str} {mean : ExcName → Option Value} {mg mb : Str → Option Value} {news : List (Addr × Obj)} {x dx : Addr} {h1 h2 : Int} {t1 t2 : Tok} {e : Addr} (hx : (x, instObj 273 dx) ∈ news) (hdx : (dx, dictOf [⟨h1, .str (Str.ofString "start") t1, .none⟩, ⟨h2, .str (Str.ofString "steps") t2, .ref e⟩] 2) ∈ news) :
    LevelIs prog w p loose mean mg mb news x 9 := by
  refine ⟨?_⟩
  intro dp un gd cn cs a ccd cl outer A₀ base h₀ L m s Q E B F X N T hk hd hu hret
  refine wpAny_call ?_
  k_dflt cell_enter
  k_steps
  all_goals exact hret _ _ _ _ ⟨⟨_, rfl⟩, rfl⟩ (by k_asm) (news_perm (by assumption) (by first | (intro p hp; exact hp) | (intro p hp; exact List.mem_cons_of_mem _ hp)))
set_option maxHeartbeats 1000000 in
theorem level_path_node {prog : Program} {w : World} {p : Program} {loose : List Str} {mean : ExcName → Option Value} {mg mb : Str → Option Value} {news : List (Addr × Obj)} {x dx : Addr} {h1 h2 : Int} {t1 t2 : Tok} {e v dv : Addr} {od : Obj} (hx : (x, instObj 273 dx) ∈ news) (hdx : (dx, dictOf [⟨h1, .str (Str.ofString "start") t1, .ref v⟩, ⟨h2, .str (Str.ofString "steps") t2, .ref e⟩] 2) ∈ news)
    (hv : (v, instObj 133 dv) ∈ news) (hdv : (dv, od) ∈ news) :
    LevelIs prog w p loose mean mg mb news x 9 := by
  refine ⟨?_⟩
  intro dp un gd cn cs a ccd cl outer A₀ base h₀ L m s Q E B F X N T hk hd hu hret
  refine wpAny_call ?_
  k_dflt cell_enter
  k_steps
  all_goals exact hret _ _ _ _ ⟨⟨_, rfl⟩, rfl⟩ (by k_asm) (news_perm (by assumption) (by first | (intro p hp; exact hp) | (intro p hp; exact List.mem_cons_of_mem _ hp)))
end
theorem rows_c10 : True := by
  k_with_none
  (k_with "ite" => first | with_reducible refine ite_tt ?_ | with_reducible refine ite_ff ?_)
  (k_with "mem" => first | with_reducible assumption | ((fail_if_success (refine' List.Mem.tail _ ?_)); assumption))
  (k_with "room" => ((try simp only [depth_mark, depth_under_make, depth_under_kw, depth_in1, depth_deeper, depth_caller]); (try dsimp only [ktrTop]); (first | exact room0 (by with_reducible assumption) | exact room1 (by with_reducible assumption) (by decide) | exact room2 (by with_reducible assumption) (by decide) | exact room3 (by with_reducible assumption) (by decide) | omega)))
  (k_with "units" => ((try simp only [units_in1, units_deeper, Around.mark_units, units_caller]); (try dsimp only [ktrTop]); (first | exact room0 (by with_reducible assumption) | exact room1 (by with_reducible assumption) (by decide) | exact room2 (by with_reducible assumption) (by decide) | exact room3 (by with_reducible assumption) (by decide) | omega)))
  (k_with "ne" => (refine neN ?_; first | exact ne0 (by with_reducible assumption) | exact ne1 (by with_reducible assumption) | exact ne2 (by with_reducible assumption) | exact ne3 (by with_reducible assumption) | exact ne4 (by with_reducible assumption) | exact ne5 (by with_reducible assumption) | ((try dsimp only); omega)))
  (k_with "subscriptTail Name Constant ref int" => (k_here; k_dflt (refine item_listL (News.isList (by k_asm) (by k_mem)) (by decide) (by decide) (by exact rfl) ?_ (by with_unfolding_all rfl) (by intro _; with_unfolding_all rfl); k_whole)))
  (k_with "subscriptTail Name Name ref int" => (k_here; k_dflt (refine item_listL (News.isList (by k_asm) (by k_mem)) (by decide) (by decide) (by exact rfl) ?_ (by with_unfolding_all rfl) (by intro _; with_unfolding_all rfl); k_whole)))
  (k_with "call ref" => (k_here; (with_reducible show wpAny _ _ (call (Value.ref 347) [Value.ref _, Value.int _ _]) _ _ _); k_dflt (refine take_use (by k_asm) (by k_asm) (by k_asm) (by k_asm) (by k_asm) (by first | exact rfl | assumption) (by k_updF) (by assumption) (by first | decide | omega) (by first | decide | omega) (by ktr_room) (by ktr_units) ?_); intro r9 t9 o9 h9 tk9 hlo9 hhi9 hs9 F9 N9; (try dsimp only at N9 hhi9 ⊢); (try k_fold)))
  (k_with "ke_room" => ktr_units)
  (k_with "compareOp Eq ref ref" => (k_here; k_dflt (refine tup_eq0 (News.isTup (by k_asm) (by k_mem)) (News.isTup (by k_asm) (by k_mem)) (by ktr_units) (by exact Nat.succ_ne_zero _) ?_)))
  (k_with "compareOp Eq ref" => (k_here; (with_reducible show wpAny _ _ (compareOp CmpOp.Eq (Value.ref _) (Value.str _ _)) _ _ _); k_dflt (refine eq_var_str (by k_asm) (by k_asm) (by k_asm) (by k_mem) (by ktr_units) ?_)))
  (k_with "call ref" => (k_here; (with_reducible show wpAny _ _ (call (Value.ref 77) _) _ _ _); k_dflt (refine make_lit_use (by k_asm) (by k_asm) (by k_asm) (by k_asm) (by k_asm) (by first | exact rfl | assumption) (by ktr_room) (by ktr_units) ?_); intro x9 d9 t90 h9 tk9 l1 l2 F9 N9; (try k_lt l1); (try k_lt2 l2); (try k_sweep); (try dsimp only at N9 ⊢); (try k_fold)))
  (k_with "call ref" => (k_here; (with_reducible show wpAny _ _ (call (Value.ref 105) _) _ _ _); k_dflt (refine make_num_use (by k_asm) (by k_asm) (by k_asm) (by k_asm) (by k_asm) (by first | exact rfl | assumption) (by ktr_room) (by ktr_units) ?_); intro x9 d9 t90 h9 tk9 l1 l2 F9 N9; (try k_lt l1); (try k_lt2 l2); (try k_sweep); (try dsimp only at N9 ⊢); (try k_fold)))
  (k_with "call ref" => (k_here; (with_reducible show wpAny _ _ (call (Value.ref 133) _) _ _ _); k_dflt (refine make_var_use (by k_asm) (by k_asm) (by k_asm) (by k_asm) (by k_asm) (by first | exact rfl | assumption) (by ktr_room) (by ktr_units) ?_); intro x9 d9 t90 h9 tk9 l1 l2 F9 N9; (try k_lt l1); (try k_lt2 l2); (try k_sweep); (try dsimp only at N9 ⊢); (try k_fold)))
  (k_with "call ref" => (k_here; (with_reducible show wpAny _ _ (call (Value.ref 161) _) _ _ _); k_dflt (refine make_call_use (by k_asm) (by k_asm) (by k_asm) (by k_asm) (by k_asm) (by first | exact rfl | assumption) (by ktr_room) (by ktr_units) ?_); intro x9 d9 t90 t91 h9 tk9 l1 l2 F9 N9; (try k_lt l1); (try k_lt2 l2); (try k_sweep); (try dsimp only at N9 ⊢); (try k_fold)))
  (k_with "call ref" => (k_here; (with_reducible show wpAny _ _ (call (Value.ref 189) _) _ _ _); k_dflt (refine make_bin_use (by k_asm) (by k_asm) (by k_asm) (by k_asm) (by k_asm) (by first | exact rfl | assumption) (by ktr_room) (by ktr_units) ?_); intro x9 d9 t90 t91 t92 h9 tk9 l1 l2 F9 N9; (try k_lt l1); (try k_lt2 l2); (try k_sweep); (try dsimp only at N9 ⊢); (try k_fold)))
  (k_with "call ref" => (k_here; (with_reducible show wpAny _ _ (call (Value.ref 217) _) _ _ _); k_dflt (refine make_neg_use (by k_asm) (by k_asm) (by k_asm) (by k_asm) (by k_asm) (by first | exact rfl | assumption) (by ktr_room) (by ktr_units) ?_); intro x9 d9 t90 h9 tk9 l1 l2 F9 N9; (try k_lt l1); (try k_lt2 l2); (try k_sweep); (try dsimp only at N9 ⊢); (try k_fold)))
  (k_with "call ref" => (k_here; (with_reducible show wpAny _ _ (call (Value.ref 245) _) _ _ _); k_dflt (refine make_filter_use (by k_asm) (by k_asm) (by k_asm) (by k_asm) (by k_asm) (by first | exact rfl | assumption) (by ktr_room) (by ktr_units) ?_); intro x9 d9 t90 t91 h9 tk9 l1 l2 F9 N9; (try k_lt l1); (try k_lt2 l2); (try k_sweep); (try dsimp only at N9 ⊢); (try k_fold)))
  (k_with "call ref" => (k_here; (with_reducible show wpAny _ _ (call (Value.ref 273) _) _ _ _); k_dflt (refine make_path_use (by k_asm) (by k_asm) (by k_asm) (by k_asm) (by k_asm) (by first | exact rfl | assumption) (by ktr_room) (by ktr_units) ?_); intro x9 d9 t90 t91 h9 tk9 l1 l2 F9 N9; (try k_lt l1); (try k_lt2 l2); (try k_sweep); (try dsimp only at N9 ⊢); (try k_fold)))
  (k_with "call ref" => (k_here; (with_reducible show wpAny _ _ (call (Value.ref 301) _) _ _ _); k_dflt (refine make_step_use (by k_asm) (by k_asm) (by k_asm) (by k_asm) (by k_asm) (by first | exact rfl | assumption) (by ktr_room) (by ktr_units) ?_); intro x9 d9 t90 t91 t92 h9 tk9 l1 l2 F9 N9; (try k_lt l1); (try k_lt2 l2); (try k_sweep); (try dsimp only at N9 ⊢); (try k_fold)))
  trivial
section
theorem all_lt_of {d : Addr} : ∀ {l : List (Addr × Obj)}, AllLt d l → ∀ p ∈ l, p.1 < d
  | [], _, _, hp => (nomatch hp)
  | q :: r, h, p, hp => by
    rcases List.mem_cons.mp hp with rfl | hp
    · exact h.1
    · exact all_lt_of h.2 p hp
set_option maxHeartbeats 1000000 in
theorem make_lit {prog : Program} {w : World} {p : Program} {loose : List Str} {mean : ExcName → Option Value} {mg mb : Str → Option Value} {news : List (Addr × Obj)} {v0 : Value} :
    Spec prog w p loose mean mg mb 77 [v0] news 3 100 (fun v nn => ∃ (x dx : Addr) (t0 : Tok), v = .ref x ∧ nn = (x, instObj 77 dx) :: (dx, dictOf [⟨PyData.keyHash w.params (Str.ofString "value"), .str (Str.ofString "value") t0, v0⟩] 1) :: news ∧ (∀ q ∈ news, q.1 < dx) ∧ dx < x) := by
  intro dp un gd cn cs a ccd cl outer A₀ base h₀ L m s Q E B F X N T hk hd hu hret
  k_here
  k_dflt (refine' call_cls ?k1 ?k2 ?k3 ?k4 ?k5 ?k6 ?_; (case k1 => k_asm); (case k2 => k_asm); (case k3 => k_asm); (case k4 => k_is); (case k5 => k_is); (case k6 => k_is); k_whole; intro x' d' h' F' N' l1 l2; (try k_lt l1); (try k_lt2 l2); (try k_sweep); cell_enter)
  k_steps
  all_goals (refine hret _ _ _ _ ⟨_, _, _, rfl, rfl, ?_, ?_⟩ (by k_asm) (by k_asm))
  all_goals first | assumption | exact all_lt_of (by assumption)
set_option maxHeartbeats 1000000 in
theorem make_num {prog : Program} {w : World} {p : Program} {loose : List Str} {mean : ExcName → Option Value} {mg mb : Str → Option Value} {news : List (Addr × Obj)} {v0 : Value} :
    Spec prog w p loose mean mg mb 105 [v0] news 3 100 (fun v nn => ∃ (x dx : Addr) (t0 : Tok), v = .ref x ∧ nn = (x, instObj 105 dx) :: (dx, dictOf [⟨PyData.keyHash w.params (Str.ofString "value"), .str (Str.ofString "value") t0, v0⟩] 1) :: news ∧ (∀ q ∈ news, q.1 < dx) ∧ dx < x) := by
  intro dp un gd cn cs a ccd cl outer A₀ base h₀ L m s Q E B F X N T hk hd hu hret
  k_here
  k_dflt (refine' call_cls ?k1 ?k2 ?k3 ?k4 ?k5 ?k6 ?_; (case k1 => k_asm); (case k2 => k_asm); (case k3 => k_asm); (case k4 => k_is); (case k5 => k_is); (case k6 => k_is); k_whole; intro x' d' h' F' N' l1 l2; (try k_lt l1); (try k_lt2 l2); (try k_sweep); cell_enter)
  k_steps
  all_goals (refine hret _ _ _ _ ⟨_, _, _, rfl, rfl, ?_, ?_⟩ (by k_asm) (by k_asm))
  all_goals first | assumption | exact all_lt_of (by assumption)
set_option maxHeartbeats 1000000 in
theorem make_var {prog : Program} {w : World} {p : Program} {loose : List Str} {mean : ExcName → Option Value} {mg mb : Str → Option Value} {news : List (Addr × Obj)} {v0 : Value} :
    Spec prog w p loose mean mg mb 133 [v0] news 3 100 (fun v nn => ∃ (x dx : Addr) (t0 : Tok), v = .ref x ∧ nn = (x, instObj 133 dx) :: (dx, dictOf [⟨PyData.keyHash w.params (Str.ofString "name"), .str (Str.ofString "name") t0, v0⟩] 1) :: news ∧ (∀ q ∈ news, q.1 < dx) ∧ dx < x) := by
  intro dp un gd cn cs a ccd cl outer A₀ base h₀ L m s Q E B F X N T hk hd hu hret
  k_here
  k_dflt (refine' call_cls ?k1 ?k2 ?k3 ?k4 ?k5 ?k6 ?_; (case k1 => k_asm); (case k2 => k_asm); (case k3 => k_asm); (case k4 => k_is); (case k5 => k_is); (case k6 => k_is); k_whole; intro x' d' h' F' N' l1 l2; (try k_lt l1); (try k_lt2 l2); (try k_sweep); cell_enter)
  k_steps
  all_goals (refine hret _ _ _ _ ⟨_, _, _, rfl, rfl, ?_, ?_⟩ (by k_asm) (by k_asm))
  all_goals first | assumption | exact all_lt_of (by assumption)
set_option maxHeartbeats 1000000 in
theorem make_call {prog : Program} {w : World} {p : Program} {loose : List Str} {mean : ExcName → Option Value} {mg mb : Str → Option Value} {news : List (Addr × Obj)} {v0 v1 : Value} :
    Spec prog w p loose mean mg mb 161 [v0, v1] news 3 100 (fun v nn => ∃ (x dx : Addr) (t0 t1 : Tok), v = .ref x ∧ nn = (x, instObj 161 dx) :: (dx, dictOf [⟨PyData.keyHash w.params (Str.ofString "name"), .str (Str.ofString "name") t0, v0⟩, ⟨PyData.keyHash w.params (Str.ofString "arguments"), .str (Str.ofString "arguments") t1, v1⟩] 2) :: news ∧ (∀ q ∈ news, q.1 < dx) ∧ dx < x) := by
  intro dp un gd cn cs a ccd cl outer A₀ base h₀ L m s Q E B F X N T hk hd hu hret
  k_here
  k_dflt (refine' call_cls ?k1 ?k2 ?k3 ?k4 ?k5 ?k6 ?_; (case k1 => k_asm); (case k2 => k_asm); (case k3 => k_asm); (case k4 => k_is); (case k5 => k_is); (case k6 => k_is); k_whole; intro x' d' h' F' N' l1 l2; (try k_lt l1); (try k_lt2 l2); (try k_sweep); cell_enter)
  k_steps
  all_goals (refine hret _ _ _ _ ⟨_, _, _, _, rfl, rfl, ?_, ?_⟩ (by k_asm) (by k_asm))
  all_goals first | assumption | exact all_lt_of (by assumption)
set_option maxHeartbeats 1000000 in
theorem make_bin {prog : Program} {w : World} {p : Program} {loose : List Str} {mean : ExcName → Option Value} {mg mb : Str → Option Value} {news : List (Addr × Obj)} {v0 v1 v2 : Value} :
    Spec prog w p loose mean mg mb 189 [v0, v1, v2] news 3 100 (fun v nn => ∃ (x dx : Addr) (t0 t1 t2 : Tok), v = .ref x ∧ nn = (x, instObj 189 dx) :: (dx, dictOf [⟨PyData.keyHash w.params (Str.ofString "op"), .str (Str.ofString "op") t0, v0⟩, ⟨PyData.keyHash w.params (Str.ofString "left"), .str (Str.ofString "left") t1, v1⟩, ⟨PyData.keyHash w.params (Str.ofString "right"), .str (Str.ofString "right") t2, v2⟩] 3) :: news ∧ (∀ q ∈ news, q.1 < dx) ∧ dx < x) := by
  intro dp un gd cn cs a ccd cl outer A₀ base h₀ L m s Q E B F X N T hk hd hu hret
  k_here
  k_dflt (refine' call_cls ?k1 ?k2 ?k3 ?k4 ?k5 ?k6 ?_; (case k1 => k_asm); (case k2 => k_asm); (case k3 => k_asm); (case k4 => k_is); (case k5 => k_is); (case k6 => k_is); k_whole; intro x' d' h' F' N' l1 l2; (try k_lt l1); (try k_lt2 l2); (try k_sweep); cell_enter)
  k_steps
  all_goals (refine hret _ _ _ _ ⟨_, _, _, _, _, rfl, rfl, ?_, ?_⟩ (by k_asm) (by k_asm))
  all_goals first | assumption | exact all_lt_of (by assumption)
set_option maxHeartbeats 1000000 in
theorem make_neg {prog : Program} {w : World} {p : Program} {loose : List Str} {mean : ExcName → Option Value} {mg mb : Str → Option Value} {news : List (Addr × Obj)} {v0 : Value} :
    Spec prog w p loose mean mg mb 217 [v0] news 3 100 (fun v nn => ∃ (x dx : Addr) (t0 : Tok), v = .ref x ∧ nn = (x, instObj 217 dx) :: (dx, dictOf [⟨PyData.keyHash w.params (Str.ofString "value"), .str (Str.ofString "value") t0, v0⟩] 1) :: news ∧ (∀ q ∈ news, q.1 < dx) ∧ dx < x) := by
  intro dp un gd cn cs a ccd cl outer A₀ base h₀ L m s Q E B F X N T hk hd hu hret
  k_here
  k_dflt (refine' call_cls ?k1 ?k2 ?k3 ?k4 ?k5 ?k6 ?_; (case k1 => k_asm); (case k2 => k_asm); (case k3 => k_asm); (case k4 => k_is); (case k5 => k_is); (case k6 => k_is); k_whole; intro x' d' h' F' N' l1 l2; (try k_lt l1); (try k_lt2 l2); (try k_sweep); cell_enter)
  k_steps
  all_goals (refine hret _ _ _ _ ⟨_, _, _, rfl, rfl, ?_, ?_⟩ (by k_asm) (by k_asm))
  all_goals first | assumption | exact all_lt_of (by assumption)
set_option maxHeartbeats 1000000 in
theorem make_filter {prog : Program} {w : World} {p : Program} {loose : List Str} {mean : ExcName → Option Value} {mg mb : Str → Option Value} {news : List (Addr × Obj)} {v0 v1 : Value} :
    Spec prog w p loose mean mg mb 245 [v0, v1] news 3 100 (fun v nn => ∃ (x dx : Addr) (t0 t1 : Tok), v = .ref x ∧ nn = (x, instObj 245 dx) :: (dx, dictOf [⟨PyData.keyHash w.params (Str.ofString "base"), .str (Str.ofString "base") t0, v0⟩, ⟨PyData.keyHash w.params (Str.ofString "predicates"), .str (Str.ofString "predicates") t1, v1⟩] 2) :: news ∧ (∀ q ∈ news, q.1 < dx) ∧ dx < x) := by
  intro dp un gd cn cs a ccd cl outer A₀ base h₀ L m s Q E B F X N T hk hd hu hret
  k_here
  k_dflt (refine' call_cls ?k1 ?k2 ?k3 ?k4 ?k5 ?k6 ?_; (case k1 => k_asm); (case k2 => k_asm); (case k3 => k_asm); (case k4 => k_is); (case k5 => k_is); (case k6 => k_is); k_whole; intro x' d' h' F' N' l1 l2; (try k_lt l1); (try k_lt2 l2); (try k_sweep); cell_enter)
  k_steps
  all_goals (refine hret _ _ _ _ ⟨_, _, _, _, rfl, rfl, ?_, ?_⟩ (by k_asm) (by k_asm))
  all_goals first | assumption | exact all_lt_of (by assumption)
set_option maxHeartbeats 1000000 in
theorem make_path {prog : Program} {w : World} {p : Program} {loose : List Str} {mean : ExcName → Option Value} {mg mb : Str → Option Value} {news : List (Addr × Obj)} {v0 v1 : Value} :
    Spec prog w p loose mean mg mb 273 [v0, v1] news 3 100 (fun v nn => ∃ (x dx : Addr) (t0 t1 : Tok), v = .ref x ∧ nn = (x, instObj 273 dx) :: (dx, dictOf [⟨PyData.keyHash w.params (Str.ofString "start"), .str (Str.ofString "start") t0, v0⟩, ⟨PyData.keyHash w.params (Str.ofString "steps"), .str (Str.ofString "steps") t1, v1⟩] 2) :: news ∧ (∀ q ∈ news, q.1 < dx) ∧ dx < x) := by
  intro dp un gd cn cs a ccd cl outer A₀ base h₀ L m s Q E B F X N T hk hd hu hret
  k_here
  k_dflt (refine' call_cls ?k1 ?k2 ?k3 ?k4 ?k5 ?k6 ?_; (case k1 => k_asm); (case k2 => k_asm); (case k3 => k_asm); (case k4 => k_is); (case k5 => k_is); (case k6 => k_is); k_whole; intro x' d' h' F' N' l1 l2; (try k_lt l1); (try k_lt2 l2); (try k_sweep); cell_enter)
  k_steps
  all_goals (refine hret _ _ _ _ ⟨_, _, _, _, rfl, rfl, ?_, ?_⟩ (by k_asm) (by k_asm))
  all_goals first | assumption | exact all_lt_of (by assumption)
set_option maxHeartbeats 1000000 in
theorem make_step {prog : Program} {w : World} {p : Program} {loose : List Str} {mean : ExcName → Option Value} {mg mb : Str → Option Value} {news : List (Addr × Obj)} {v0 v1 v2 : Value} :
    Spec prog w p loose mean mg mb 301 [v0, v1, v2] news 3 100 (fun v nn => ∃ (x dx : Addr) (t0 t1 t2 : Tok), v = .ref x ∧ nn = (x, instObj 301 dx) :: (dx, dictOf [⟨PyData.keyHash w.params (Str.ofString "axis"), .str (Str.ofString "axis") t0, v0⟩, ⟨PyData.keyHash w.params (Str.ofString "test"), .str (Str.ofString "test") t1, v1⟩, ⟨PyData.keyHash w.params (Str.ofString "predicates"), .str (Str.ofString "predicates") t2, v2⟩] 3) :: news ∧ (∀ q ∈ news, q.1 < dx) ∧ dx < x) := by
  intro dp un gd cn cs a ccd cl outer A₀ base h₀ L m s Q E B F X N T hk hd hu hret
  k_here
  k_dflt (refine' call_cls ?k1 ?k2 ?k3 ?k4 ?k5 ?k6 ?_; (case k1 => k_asm); (case k2 => k_asm); (case k3 => k_asm); (case k4 => k_is); (case k5 => k_is); (case k6 => k_is); k_whole; intro x' d' h' F' N' l1 l2; (try k_lt l1); (try k_lt2 l2); (try k_sweep); cell_enter)
  k_steps
  all_goals (refine hret _ _ _ _ ⟨_, _, _, _, _, rfl, rfl, ?_, ?_⟩ (by k_asm) (by k_asm))
  all_goals first | assumption | exact all_lt_of (by assumption)
theorem make_lit_use {prog : Program} {w : World} {p : Program} {loose : List Str} {mean : ExcName → Option Value} {mg mb : Str → Option Value} {news : List (Addr × Obj)} {v0 : Value} {dp un : Nat} {gd : Option (List Code)} {cn : Str} {cs : Scope} {a : Addr} {ccd : Value} {cl : List (Str × Addr)} {outer : List Env} {A₀ : Around} {base h₀ : Heap} {L : Addr} {m : Str → Option Value} {s : Shared} {Q E : Value → Shared → Prop}
    (B : Below A₀ base outer h₀) (F : Fr h₀ L s.heap m) (X : (hd.heap_39 w.params).In h₀) (N : News h₀ L s.heap news) (T : Top p loose mean mg mb h₀) (hk : cs.kind = .function)  (hdp : dp + 3 < recursionLimit) (hun : un + 100 < cLine)
    (ret : ∀ (x dx : Addr) (t0 : Tok) (h' : Heap) (tk' : Nat), (∀ q ∈ news, q.1 < dx) → dx < x → Fr h₀ L h' m → News h₀ L h' ((x, instObj 77 dx) :: (dx, dictOf [⟨PyData.keyHash w.params (Str.ofString "value"), .str (Str.ofString "value") t0, v0⟩] 1) :: news) → Q (.ref x) { s with heap := h', toks := tk' }) :
    wpAny (model prog w) (ktrTop dp un gd cn cs L a ccd cl outer) (call (.ref 77) [v0]) Q E s := Spec.use (make_lit) B F X N T hk hdp hun fun v nn h' tk' hp F' N' => by
  obtain ⟨x, dx, t0, e, e2, a1, a2⟩ := hp
  subst e; subst e2; exact ret x dx t0 h' tk' a1 a2 F' N'
theorem make_num_use {prog : Program} {w : World} {p : Program} {loose : List Str} {mean : ExcName → Option Value} {mg mb : Str → Option Value} {news : List (Addr × Obj)} {v0 : Value} {dp un : Nat} {gd : Option (List Code)} {cn : Str} {cs : Scope} {a : Addr} {ccd : Value} {cl : List (Str × Addr)} {outer : List Env} {A₀ : Around} {base h₀ : Heap} {L : Addr} {m : Str → Option Value} {s : Shared} {Q E : Value → Shared → Prop}
    (B : Below A₀ base outer h₀) (F : Fr h₀ L s.heap m) (X : (hd.heap_39 w.params).In h₀) (N : News h₀ L s.heap news) (T : Top p loose mean mg mb h₀) (hk : cs.kind = .function)  (hdp : dp + 3 < recursionLimit) (hun : un + 100 < cLine)
    (ret : ∀ (x dx : Addr) (t0 : Tok) (h' : Heap) (tk' : Nat), (∀ q ∈ news, q.1 < dx) → dx < x → Fr h₀ L h' m → News h₀ L h' ((x, instObj 105 dx) :: (dx, dictOf [⟨PyData.keyHash w.params (Str.ofString "value"), .str (Str.ofString "value") t0, v0⟩] 1) :: news) → Q (.ref x) { s with heap := h', toks := tk' }) :
    wpAny (model prog w) (ktrTop dp un gd cn cs L a ccd cl outer) (call (.ref 105) [v0]) Q E s := Spec.use (make_num) B F X N T hk hdp hun fun v nn h' tk' hp F' N' => by
  obtain ⟨x, dx, t0, e, e2, a1, a2⟩ := hp
  subst e; subst e2; exact ret x dx t0 h' tk' a1 a2 F' N'
theorem make_var_use {prog : Program} {w : World} {p : Program} {loose : List Str} {mean : ExcName → Option Value} {mg mb : Str → Option Value} {news : List (Addr × Obj)} {v0 : Value} {dp un : Nat} {gd : Option (List Code)} {cn : Str} {cs : Scope} {a : Addr} {ccd : Value} {cl : List (Str × Addr)} {outer : List Env} {A₀ : Around} {base h₀ : Heap} {L : Addr} {m : Str → Option Value} {s : Shared} {Q E : Value → Shared → Prop}
    (B : Below A₀ base outer h₀) (F : Fr h₀ L s.heap m) (X : (hd.heap_39 w.params).In h₀) (N : News h₀ L s.heap news) (T : Top p loose mean mg mb h₀) (hk : cs.kind = .function)  (hdp : dp + 3 < recursionLimit) (hun : un + 100 < cLine)
    (ret : ∀ (x dx : Addr) (t0 : Tok) (h' : Heap) (tk' : Nat), (∀ q ∈ news, q.1 < dx) → dx < x → Fr h₀ L h' m → News h₀ L h' ((x, instObj 133 dx) :: (dx, dictOf [⟨PyData.keyHash w.params (Str.ofString "name"), .str (Str.ofString "name") t0, v0⟩] 1) :: news) → Q (.ref x) { s with heap := h', toks := tk' }) :
    wpAny (model prog w) (ktrTop dp un gd cn cs L a ccd cl outer) (call (.ref 133) [v0]) Q E s := Spec.use (make_var) B F X N T hk hdp hun fun v nn h' tk' hp F' N' => by
  obtain ⟨x, dx, t0, e, e2, a1, a2⟩ := hp
  subst e; subst e2; exact ret x dx t0 h' tk' a1 a2 F' N'
theorem make_call_use {prog : Program} {w : World} {p : Program} {loose : List Str} {mean : ExcName → Option Value} {mg mb : Str → Option Value} {news : List (Addr × Obj)} {v0 v1 : Value} {dp un : Nat} {gd : Option (List Code)} {cn : Str} {cs : Scope} {a : Addr} {ccd : Value} {cl : List (Str × Addr)} {outer : List Env} {A₀ : Around} {base h₀ : Heap} {L : Addr} {m : Str → Option Value} {s : Shared} {Q E : Value → Shared → Prop}
    (B : Below A₀ base outer h₀) (F : Fr h₀ L s.heap m) (X : (hd.heap_39 w.params).In h₀) (N : News h₀ L s.heap news) (T : Top p loose mean mg mb h₀) (hk : cs.kind = .function)  (hdp : dp + 3 < recursionLimit) (hun : un + 100 < cLine)
    (ret : ∀ (x dx : Addr) (t0 t1 : Tok) (h' : Heap) (tk' : Nat), (∀ q ∈ news, q.1 < dx) → dx < x → Fr h₀ L h' m → News h₀ L h' ((x, instObj 161 dx) :: (dx, dictOf [⟨PyData.keyHash w.params (Str.ofString "name"), .str (Str.ofString "name") t0, v0⟩, ⟨PyData.keyHash w.params (Str.ofString "arguments"), .str (Str.ofString "arguments") t1, v1⟩] 2) :: news) → Q (.ref x) { s with heap := h', toks := tk' }) :
    wpAny (model prog w) (ktrTop dp un gd cn cs L a ccd cl outer) (call (.ref 161) [v0, v1]) Q E s := Spec.use (make_call) B F X N T hk hdp hun fun v nn h' tk' hp F' N' => by
  obtain ⟨x, dx, t0, t1, e, e2, a1, a2⟩ := hp
  subst e; subst e2; exact ret x dx t0 t1 h' tk' a1 a2 F' N'
theorem make_bin_use {prog : Program} {w : World} {p : Program} {loose : List Str} {mean : ExcName → Option Value} {mg mb : Str → Option Value} {news : List (Addr × Obj)} {v0 v1 v2 : Value} {dp un : Nat} {gd : Option (List Code)} {cn : Str} {cs : Scope} {a : Addr} {ccd : Value} {cl : List (Str × Addr)} {outer : List Env} {A₀ : Around} {base h₀ : Heap} {L : Addr} {m : Str → Option Value} {s : Shared} {Q E : Value → Shared → Prop}
    (B : Below A₀ base outer h₀) (F : Fr h₀ L s.heap m) (X : (hd.heap_39 w.params).In h₀) (N : News h₀ L s.heap news) (T : Top p loose mean mg mb h₀) (hk : cs.kind = .function)  (hdp : dp + 3 < recursionLimit) (hun : un + 100 < cLine)
    (ret : ∀ (x dx : Addr) (t0 t1 t2 : Tok) (h' : Heap) (tk' : Nat), (∀ q ∈ news, q.1 < dx) → dx < x → Fr h₀ L h' m → News h₀ L h' ((x, instObj 189 dx) :: (dx, dictOf [⟨PyData.keyHash w.params (Str.ofString "op"), .str (Str.ofString "op") t0, v0⟩, ⟨PyData.keyHash w.params (Str.ofString "left"), .str (Str.ofString "left") t1, v1⟩, ⟨PyData.keyHash w.params (Str.ofString "right"), .str (Str.ofString "right") t2, v2⟩] 3) :: news) → Q (.ref x) { s with heap := h', toks := tk' }) :
    wpAny (model prog w) (ktrTop dp un gd cn cs L a ccd cl outer) (call (.ref 189) [v0, v1, v2]) Q E s := Spec.use (make_bin) B F X N T hk hdp hun fun v nn h' tk' hp F' N' => by
  obtain ⟨x, dx, t0, t1, t2, e, e2, a1, a2⟩ := hp
  subst e; subst e2; exact ret x dx t0 t1 t2 h' tk' a1 a2 F' N'
theorem make_neg_use {prog : Program} {w : World} {p : Program} {loose : List Str} {mean : ExcName → Option Value} {mg mb : Str → Option Value} {news : List (Addr × Obj)} {v0 : Value} {dp un : Nat} {gd : Option (List Code)} {cn : Str} {cs : Scope} {a : Addr} {ccd : Value} {cl : List (Str × Addr)} {outer : List Env} {A₀ : Around} {base h₀ : Heap} {L : Addr} {m : Str → Option Value} {s : Shared} {Q E : Value → Shared → Prop}
    (B : Below A₀ base outer h₀) (F : Fr h₀ L s.heap m) (X : (hd.heap_39 w.params).In h₀) (N : News h₀ L s.heap news) (T : Top p loose mean mg mb h₀) (hk : cs.kind = .function)  (hdp : dp + 3 < recursionLimit) (hun : un + 100 < cLine)
    (ret : ∀ (x dx : Addr) (t0 : Tok) (h' : Heap) (tk' : Nat), (∀ q ∈ news, q.1 < dx) → dx < x → Fr h₀ L h' m → News h₀ L h' ((x, instObj 217 dx) :: (dx, dictOf [⟨PyData.keyHash w.params (Str.ofString "value"), .str (Str.ofString "value") t0, v0⟩] 1) :: news) → Q (.ref x) { s with heap := h', toks := tk' }) :
    wpAny (model prog w) (ktrTop dp un gd cn cs L a ccd cl outer) (call (.ref 217) [v0]) Q E s := Spec.use (make_neg) B F X N T hk hdp hun fun v nn h' tk' hp F' N' => by
  obtain ⟨x, dx, t0, e, e2, a1, a2⟩ := hp
  subst e; subst e2; exact ret x dx t0 h' tk' a1 a2 F' N'
theorem make_filter_use {prog : Program} {w : World} {p : Program} {loose : List Str} {mean : ExcName → Option Value} {mg mb : Str → Option Value} {news : List (Addr × Obj)} {v0 v1 : Value} {dp un : Nat} {gd : Option (List Code)} {cn : Str} {cs : Scope} {a : Addr} {ccd : Value} {cl : List (Str × Addr)} {outer : List Env} {A₀ : Around} {base h₀ : Heap} {L : Addr} {m : Str → Option Value} {s : Shared} {Q E : Value → Shared → Prop}
    (B : Below A₀ base outer h₀) (F : Fr h₀ L s.heap m) (X : (hd.heap_39 w.params).In h₀) (N : News h₀ L s.heap news) (T : Top p loose mean mg mb h₀) (hk : cs.kind = .function)  (hdp : dp + 3 < recursionLimit) (hun : un + 100 < cLine)
    (ret : ∀ (x dx : Addr) (t0 t1 : Tok) (h' : Heap) (tk' : Nat), (∀ q ∈ news, q.1 < dx) → dx < x → Fr h₀ L h' m → News h₀ L h' ((x, instObj 245 dx) :: (dx, dictOf [⟨PyData.keyHash w.params (Str.ofString "base"), .str (Str.ofString "base") t0, v0⟩, ⟨PyData.keyHash w.params (Str.ofString "predicates"), .str (Str.ofString "predicates") t1, v1⟩] 2) :: news) → Q (.ref x) { s with heap := h', toks := tk' }) :
    wpAny (model prog w) (ktrTop dp un gd cn cs L a ccd cl outer) (call (.ref 245) [v0, v1]) Q E s := Spec.use (make_filter) B F X N T hk hdp hun fun v nn h' tk' hp F' N' => by
  obtain ⟨x, dx, t0, t1, e, e2, a1, a2⟩ := hp
  subst e; subst e2; exact ret x dx t0 t1 h' tk' a1 a2 F' N'
theorem make_path_use {prog : Program} {w : World} {p : Program} {loose : List Str} {mean : ExcName → Option Value} {mg mb : Str → Option Value} {news : List (Addr × Obj)} {v0 v1 : Value} {dp un : Nat} {gd : Option (List Code)} {cn : Str} {cs : Scope} {a : Addr} {ccd : Value} {cl : List (Str × Addr)} {outer : List Env} {A₀ : Around} {base h₀ : Heap} {L : Addr} {m : Str → Option Value} {s : Shared} {Q E : Value → Shared → Prop}
    (B : Below A₀ base outer h₀) (F : Fr h₀ L s.heap m) (X : (hd.heap_39 w.params).In h₀) (N : News h₀ L s.heap news) (T : Top p loose mean mg mb h₀) (hk : cs.kind = .function)  (hdp : dp + 3 < recursionLimit) (hun : un + 100 < cLine)
    (ret : ∀ (x dx : Addr) (t0 t1 : Tok) (h' : Heap) (tk' : Nat), (∀ q ∈ news, q.1 < dx) → dx < x → Fr h₀ L h' m → News h₀ L h' ((x, instObj 273 dx) :: (dx, dictOf [⟨PyData.keyHash w.params (Str.ofString "start"), .str (Str.ofString "start") t0, v0⟩, ⟨PyData.keyHash w.params (Str.ofString "steps"), .str (Str.ofString "steps") t1, v1⟩] 2) :: news) → Q (.ref x) { s with heap := h', toks := tk' }) :
    wpAny (model prog w) (ktrTop dp un gd cn cs L a ccd cl outer) (call (.ref 273) [v0, v1]) Q E s := Spec.use (make_path) B F X N T hk hdp hun fun v nn h' tk' hp F' N' => by
  obtain ⟨x, dx, t0, t1, e, e2, a1, a2⟩ := hp
  subst e; subst e2; exact ret x dx t0 t1 h' tk' a1 a2 F' N'
theorem make_step_use {prog : Program} {w : World} {p : Program} {loose : List Str} {mean : ExcName → Option Value} {mg mb : Str → Option Value} {news : List (Addr × Obj)} {v0 v1 v2 : Value} {dp un : Nat} {gd : Option (List Code)} {cn : Str} {cs : Scope} {a : Addr} {ccd : Value} {cl : List (Str × Addr)} {outer : List Env} {A₀ : Around} {base h₀ : Heap} {L : Addr} {m : Str → Option Value} {s : Shared} {Q E : Value → Shared → Prop}
    (B : Below A₀ base outer h₀) (F : Fr h₀ L s.heap m) (X : (hd.heap_39 w.params).In h₀) (N : News h₀ L s.heap news) (T : Top p loose mean mg mb h₀) (hk : cs.kind = .function)  (hdp : dp + 3 < recursionLimit) (hun : un + 100 < cLine)
    (ret : ∀ (x dx : Addr) (t0 t1 t2 : Tok) (h' : Heap) (tk' : Nat), (∀ q ∈ news, q.1 < dx) → dx < x → Fr h₀ L h' m → News h₀ L h' ((x, instObj 301 dx) :: (dx, dictOf [⟨PyData.keyHash w.params (Str.ofString "axis"), .str (Str.ofString "axis") t0, v0⟩, ⟨PyData.keyHash w.params (Str.ofString "test"), .str (Str.ofString "test") t1, v1⟩, ⟨PyData.keyHash w.params (Str.ofString "predicates"), .str (Str.ofString "predicates") t2, v2⟩] 3) :: news) → Q (.ref x) { s with heap := h', toks := tk' }) :
    wpAny (model prog w) (ktrTop dp un gd cn cs L a ccd cl outer) (call (.ref 301) [v0, v1, v2]) Q E s := Spec.use (make_step) B F X N T hk hdp hun fun v nn h' tk' hp F' N' => by
  obtain ⟨x, dx, t0, t1, t2, e, e2, a1, a2⟩ := hp
  subst e; subst e2; exact ret x dx t0 t1 t2 h' tk' a1 a2 F' N'
end
section
theorem rows_c11 : True := by
  k_with_none
  (k_with "ite" => first | with_reducible refine ite_tt ?_ | with_reducible refine ite_ff ?_)
  (k_with "mem" => first | with_reducible assumption | ((fail_if_success (refine' List.Mem.tail _ ?_)); assumption))
  (k_with "room" => ((try simp only [depth_mark, depth_under_make, depth_under_kw, depth_in1, depth_deeper, depth_caller]); (try dsimp only [ktrTop]); (first | exact room0 (by with_reducible assumption) | exact room1 (by with_reducible assumption) (by decide) | exact room2 (by with_reducible assumption) (by decide) | exact room3 (by with_reducible assumption) (by decide) | omega)))
  (k_with "units" => ((try simp only [units_in1, units_deeper, Around.mark_units, units_caller]); (try dsimp only [ktrTop]); (first | exact room0 (by with_reducible assumption) | exact room1 (by with_reducible assumption) (by decide) | exact room2 (by with_reducible assumption) (by decide) | exact room3 (by with_reducible assumption) (by decide) | omega)))
  (k_with "ne" => (refine neN ?_; first | exact ne0 (by with_reducible assumption) | exact ne1 (by with_reducible assumption) | exact ne2 (by with_reducible assumption) | exact ne3 (by with_reducible assumption) | exact ne4 (by with_reducible assumption) | exact ne5 (by with_reducible assumption) | ((try dsimp only); omega)))
  (k_with "subscriptTail Name Constant ref int" => (k_here; k_dflt (refine item_listL (News.isList (by k_asm) (by k_mem)) (by decide) (by decide) (by exact rfl) ?_ (by with_unfolding_all rfl) (by intro _; with_unfolding_all rfl); k_whole)))
  (k_with "subscriptTail Name Name ref int" => (k_here; k_dflt (refine item_listL (News.isList (by k_asm) (by k_mem)) (by decide) (by decide) (by exact rfl) ?_ (by with_unfolding_all rfl) (by intro _; with_unfolding_all rfl); k_whole)))
  (k_with "call ref" => (k_here; (with_reducible show wpAny _ _ (call (Value.ref 347) [Value.ref _, Value.int _ _]) _ _ _); k_dflt (refine take_use (by k_asm) (by k_asm) (by k_asm) (by k_asm) (by k_asm) (by first | exact rfl | assumption) (by k_updF) (by assumption) (by first | decide | omega) (by first | decide | omega) (by ktr_room) (by ktr_units) ?_); intro r9 t9 o9 h9 tk9 hlo9 hhi9 hs9 F9 N9; (try dsimp only at N9 hhi9 ⊢); (try k_fold)))
  (k_with "ke_room" => ktr_units)
  (k_with "compareOp Eq ref ref" => (k_here; k_dflt (refine tup_eq0 (News.isTup (by k_asm) (by k_mem)) (News.isTup (by k_asm) (by k_mem)) (by ktr_units) (by exact Nat.succ_ne_zero _) ?_)))
  (k_with "compareOp Eq ref" => (k_here; (with_reducible show wpAny _ _ (compareOp CmpOp.Eq (Value.ref _) (Value.str _ _)) _ _ _); k_dflt (refine eq_var_str (by k_asm) (by k_asm) (by k_asm) (by k_mem) (by ktr_units) ?_)))
  (k_with "call ref" => (k_here; (with_reducible show wpAny _ _ (call (Value.ref 77) _) _ _ _); k_dflt (refine make_lit_use (by k_asm) (by k_asm) (by k_asm) (by k_asm) (by k_asm) (by first | exact rfl | assumption) (by ktr_room) (by ktr_units) ?_); intro x9 d9 t90 h9 tk9 l1 l2 F9 N9; (try k_lt l1); (try k_lt2 l2); (try k_sweep); (try dsimp only at N9 ⊢); (try k_fold)))
  (k_with "call ref" => (k_here; (with_reducible show wpAny _ _ (call (Value.ref 105) _) _ _ _); k_dflt (refine make_num_use (by k_asm) (by k_asm) (by k_asm) (by k_asm) (by k_asm) (by first | exact rfl | assumption) (by ktr_room) (by ktr_units) ?_); intro x9 d9 t90 h9 tk9 l1 l2 F9 N9; (try k_lt l1); (try k_lt2 l2); (try k_sweep); (try dsimp only at N9 ⊢); (try k_fold)))
  (k_with "call ref" => (k_here; (with_reducible show wpAny _ _ (call (Value.ref 133) _) _ _ _); k_dflt (refine make_var_use (by k_asm) (by k_asm) (by k_asm) (by k_asm) (by k_asm) (by first | exact rfl | assumption) (by ktr_room) (by ktr_units) ?_); intro x9 d9 t90 h9 tk9 l1 l2 F9 N9; (try k_lt l1); (try k_lt2 l2); (try k_sweep); (try dsimp only at N9 ⊢); (try k_fold)))
  (k_with "call ref" => (k_here; (with_reducible show wpAny _ _ (call (Value.ref 161) _) _ _ _); k_dflt (refine make_call_use (by k_asm) (by k_asm) (by k_asm) (by k_asm) (by k_asm) (by first | exact rfl | assumption) (by ktr_room) (by ktr_units) ?_); intro x9 d9 t90 t91 h9 tk9 l1 l2 F9 N9; (try k_lt l1); (try k_lt2 l2); (try k_sweep); (try dsimp only at N9 ⊢); (try k_fold)))
  (k_with "call ref" => (k_here; (with_reducible show wpAny _ _ (call (Value.ref 189) _) _ _ _); k_dflt (refine make_bin_use (by k_asm) (by k_asm) (by k_asm) (by k_asm) (by k_asm) (by first | exact rfl | assumption) (by ktr_room) (by ktr_units) ?_); intro x9 d9 t90 t91 t92 h9 tk9 l1 l2 F9 N9; (try k_lt l1); (try k_lt2 l2); (try k_sweep); (try dsimp only at N9 ⊢); (try k_fold)))
  (k_with "call ref" => (k_here; (with_reducible show wpAny _ _ (call (Value.ref 217) _) _ _ _); k_dflt (refine make_neg_use (by k_asm) (by k_asm) (by k_asm) (by k_asm) (by k_asm) (by first | exact rfl | assumption) (by ktr_room) (by ktr_units) ?_); intro x9 d9 t90 h9 tk9 l1 l2 F9 N9; (try k_lt l1); (try k_lt2 l2); (try k_sweep); (try dsimp only at N9 ⊢); (try k_fold)))
  (k_with "call ref" => (k_here; (with_reducible show wpAny _ _ (call (Value.ref 245) _) _ _ _); k_dflt (refine make_filter_use (by k_asm) (by k_asm) (by k_asm) (by k_asm) (by k_asm) (by first | exact rfl | assumption) (by ktr_room) (by ktr_units) ?_); intro x9 d9 t90 t91 h9 tk9 l1 l2 F9 N9; (try k_lt l1); (try k_lt2 l2); (try k_sweep); (try dsimp only at N9 ⊢); (try k_fold)))
  (k_with "call ref" => (k_here; (with_reducible show wpAny _ _ (call (Value.ref 273) _) _ _ _); k_dflt (refine make_path_use (by k_asm) (by k_asm) (by k_asm) (by k_asm) (by k_asm) (by first | exact rfl | assumption) (by ktr_room) (by ktr_units) ?_); intro x9 d9 t90 t91 h9 tk9 l1 l2 F9 N9; (try k_lt l1); (try k_lt2 l2); (try k_sweep); (try dsimp only at N9 ⊢); (try k_fold)))
  (k_with "call ref" => (k_here; (with_reducible show wpAny _ _ (call (Value.ref 301) _) _ _ _); k_dflt (refine make_step_use (by k_asm) (by k_asm) (by k_asm) (by k_asm) (by k_asm) (by first | exact rfl | assumption) (by ktr_room) (by ktr_units) ?_); intro x9 d9 t90 t91 t92 h9 tk9 l1 l2 F9 N9; (try k_lt l1); (try k_lt2 l2); (try k_sweep); (try dsimp only at N9 ⊢); (try k_fold)))
  trivial
section
theorem rest_in {src : Addr} {o : Obj} {pre post nn : List (Addr × Obj)} (h : ∀ p ∈ pre ++ post, p ∈ nn) : ∀ p ∈ pre ++ (src, o) :: post, p.1 ≠ src → p ∈ nn := by
  intro p hp hne
  rcases List.mem_cons.mp (from_front _ hp) with e | e
  · exact absurd (congrArg Prod.fst e) hne
  · exact h p e
def strWords : List Value → List Str
  | [] => []
  | .str x _ :: r => x :: strWords r
  | _ :: r => strWords r
def allStrs : List Value → Bool
  | [] => true
  | .str _ _ :: r => allStrs r
  | _ :: _ => false
theorem strs_mem {vs : List Value} (h : allStrs vs = true) : ∀ {v : Value}, v ∈ vs → ∃ x t, v = .str x t ∧ x ∈ strWords vs := by
  induction vs with
  | nil => intro v hv; cases hv
  | cons a r ih =>
    intro v hv
    cases a with
    | str x t =>
      rcases List.mem_cons.mp hv with e | e
      · exact ⟨x, t, e, .head _⟩
      · obtain ⟨y, u, h1, h2⟩ := ih h e
        exact ⟨y, u, h1, .tail _ h2⟩
    | _ => cases h
theorem if_word {prog : Program} {w : World} {A : Around} {E : Value → Shared → Prop} {s : Shared} {cn : Str} {cs : Scope} {L a : Addr} {ccd : Value} {h₀ : Heap} {m : Str → Option Value} {x c wd : Str} {np cp tp pos : Pos} {k : Nat} {t : Tok} {body orelse : List Stmt} {Q : Flow → Shared → Prop}
    (F : Fr h₀ L s.heap m) (hv : m x = some (.str wd t))
    (h : if (wd == c) = true then wpAny (model prog w) A (execs body (envOf cn cs L a ccd)) Q E { s with toks := s.toks + 1 } else wpAny (model prog w) A (execs orelse (envOf cn cs L a ccd)) Q E { s with toks := s.toks + 1 })
    (hk : cs.kind = .function) (hx : (envOf cn cs L a ccd).kindOf x = some .local) (hd : (x == ("__debug__" : Str)) = false) :
    wpAny (model prog w) A (exec (.If (.Compare (.Name x np) [.Eq] [.Constant (.str c) k cp] tp) body orelse pos) (envOf cn cs L a ccd)) Q E s :=
  wpAny_If (wpAny_isTrue_Compare1 (ld F hv (Calls.Constant_str (eq_str (wpAny_truthy_bool h))) hk hx hd))
def lvOk (wt : Int) (y : Str) : Bool := match (Spec.lookup (.str y) opTab).getD (.int 4) with
  | .int i => i == wt
  | _ => false
theorem level_path_any {prog : Program} {w : World} {p : Program} {loose : List Str} {mean : ExcName → Option Value} {mg mb : Str → Option Value} {news : List (Addr × Obj)} {x dx : Addr} {h1 h2 : Int} {t1 t2 t3 : Tok} {e st : Addr} {n : Nat} {v : Value} (hx : (x, instObj 273 dx) ∈ news) (hdx : (dx, dictOf [⟨h1, .str (Str.ofString "start") t1, v⟩, ⟨h2, .str (Str.ofString "steps") t2, .ref e⟩] 2) ∈ news)
    (hv : v ∈ [Value.none, .str (Str.ofString "root") t3]) (he : (e, { cls := .type "tuple", data := .seq [.ref st].toArray n }) ∈ news) : LevelIs prog w p loose mean mg mb news x 9 := by
  rcases List.mem_cons.mp hv with rfl | hv
  · exact level_path_none hx hdx
  · rw [List.mem_singleton.mp hv] at hdx
    exact level_path_root hx hdx he
def wordPairs : List (Int × Str) := [(0, Str.ofString "/"), (1, Str.ofString "or"), (2, Str.ofString "and"), (3, Str.ofString "="), (3, Str.ofString "!="), (4, Str.ofString "<"), (4, Str.ofString "<="), (4, Str.ofString ">"), (4, Str.ofString ">="), (5, Str.ofString "+"), (5, Str.ofString "-"), (6, Str.ofString "*"), (6, Str.ofString "div"), (6, Str.ofString "mod"), (7, Str.ofString "negated"), (8, Str.ofString "|"), (9, Str.ofString "step"), (9, Str.ofString "inner"), (10, Str.ofString "filter"), (11, Str.ofString "text"), (11, Str.ofString "number"), (11, Str.ofString "variable"), (11, Str.ofString "call")]
theorem pick12n {l0 l1 l2 l3 l4 l5 l6 l7 l8 l9 l10 l11 : Addr} : ∀ n : Nat, n < 12 → ∃ t, ([.ref l0, .ref l1, .ref l2, .ref l3, .ref l4, .ref l5, .ref l6, .ref l7, .ref l8, .ref l9, .ref l10, .ref l11] : List Value)[n]? = some (.ref t) ∧ ((n : Int), t) ∈ [((0 : Int), l0), (1, l1), (2, l2), (3, l3), (4, l4), (5, l5), (6, l6), (7, l7), (8, l8), (9, l9), (10, l10), (11, l11)]
  | 0, _ => ⟨_, rfl, .head _⟩
  | 1, _ => ⟨_, rfl, .tail _ (.head _)⟩
  | 2, _ => ⟨_, rfl, .tail _ (.tail _ (.head _))⟩
  | 3, _ => ⟨_, rfl, .tail _ (.tail _ (.tail _ (.head _)))⟩
  | 4, _ => ⟨_, rfl, .tail _ (.tail _ (.tail _ (.tail _ (.head _))))⟩
  | 5, _ => ⟨_, rfl, .tail _ (.tail _ (.tail _ (.tail _ (.tail _ (.head _)))))⟩
  | 6, _ => ⟨_, rfl, .tail _ (.tail _ (.tail _ (.tail _ (.tail _ (.tail _ (.head _))))))⟩
  | 7, _ => ⟨_, rfl, .tail _ (.tail _ (.tail _ (.tail _ (.tail _ (.tail _ (.tail _ (.head _)))))))⟩
  | 8, _ => ⟨_, rfl, .tail _ (.tail _ (.tail _ (.tail _ (.tail _ (.tail _ (.tail _ (.tail _ (.head _))))))))⟩
  | 9, _ => ⟨_, rfl, .tail _ (.tail _ (.tail _ (.tail _ (.tail _ (.tail _ (.tail _ (.tail _ (.tail _ (.head _)))))))))⟩
  | 10, _ => ⟨_, rfl, .tail _ (.tail _ (.tail _ (.tail _ (.tail _ (.tail _ (.tail _ (.tail _ (.tail _ (.tail _ (.head _))))))))))⟩
  | 11, _ => ⟨_, rfl, .tail _ (.tail _ (.tail _ (.tail _ (.tail _ (.tail _ (.tail _ (.tail _ (.tail _ (.tail _ (.tail _ (.head _)))))))))))⟩
  | n + 12, h => absurd h (Nat.not_lt.mpr (Nat.le_add_left 12 n))
theorem pick12 {l0 l1 l2 l3 l4 l5 l6 l7 l8 l9 l10 l11 : Addr} {r : Int} (h0 : 0 ≤ r) (h1 : r < 12) : ∃ t, ([.ref l0, .ref l1, .ref l2, .ref l3, .ref l4, .ref l5, .ref l6, .ref l7, .ref l8, .ref l9, .ref l10, .ref l11] : List Value)[r.toNat]? = some (.ref t) ∧ (r, t) ∈ [((0 : Int), l0), (1, l1), (2, l2), (3, l3), (4, l4), (5, l5), (6, l6), (7, l7), (8, l8), (9, l9), (10, l10), (11, l11)] := by
  obtain ⟨t, h, hm⟩ := pick12n (l0 := l0) (l1 := l1) (l2 := l2) (l3 := l3) (l4 := l4) (l5 := l5) (l6 := l6) (l7 := l7) (l8 := l8) (l9 := l9) (l10 := l10) (l11 := l11) r.toNat (by omega)
  rw [Int.toNat_of_nonneg h0] at hm
  exact ⟨t, h, hm⟩
theorem item_pick {prog : Program} {w : World} {A : Around} {E : Value → Shared → Prop} {s : Shared} {value slice : Expr} {a : Addr} {l0 l1 l2 l3 l4 l5 l6 l7 l8 l9 l10 l11 : Addr} {k : Int} {u : Tok} {Q : Value → Shared → Prop} (hl : s.heap.IsList a ([.ref l0, .ref l1, .ref l2, .ref l3, .ref l4, .ref l5, .ref l6, .ref l7, .ref l8, .ref l9, .ref l10, .ref l11] : List Value).toArray)
    (h0 : 0 ≤ k) (h1 : k < 12) (h : ∀ t, (k, t) ∈ [((0 : Int), l0), (1, l1), (2, l2), (3, l3), (4, l4), (5, l5), (6, l6), (7, l7), (8, l8), (9, l9), (10, l10), (11, l11)] → Q (.ref t) s)
    (hs : subscripted slice false (.ref a) (.int k u) = operate [.ref a, .int k u] (getItem (.ref a) (.int k u))) (hg : ∀ r, letTemporaryGo value (.ref a) r = pure ()) :
    wpAny (model prog w) A (subscriptTail value slice (.ref a) (.int k u)) Q E s := by
  obtain ⟨t, hx, ht⟩ := pick12 h0 h1
  exact item_listL hl h0 (by omega) hx (h t ht) hs hg
/-- a list of words that stand at place r of the law's own table -/
def SortAt (news : List (Addr × Obj)) (src : Addr) (r : Int) (t : Addr) : Prop :=
  ∃ (vs : List Value) (n : Nat), (t, listOf vs.toArray n) ∈ news ∧ t ≠ src ∧ 0 < vs.length ∧ vs.length < 1000 ∧ ∀ v ∈ vs, ∃ x tk, v = .str x tk ∧ (r, x) ∈ wordPairs
theorem sort_at {news : List (Addr × Obj)} {src l : Addr} {vs : List Value} {n : Nat} (i : Int) (ws : List Str) (hm : (l, listOf vs.toArray n) ∈ news) (hne : l ≠ src) (h0 : 0 < vs.length) (h1 : vs.length < 1000) (ha : allStrs vs = true) (hw : strWords vs = ws)
    (hp : (ws.all fun x => decide ((i, x) ∈ wordPairs)) = true) : SortAt news src i l := by
  refine ⟨vs, n, hm, hne, h0, h1, fun v hv => ?_⟩
  obtain ⟨x, tk, e, hx⟩ := strs_mem ha hv
  rw [hw] at hx
  exact ⟨x, tk, e, of_decide_eq_true (List.all_eq_true.mp hp x hx)⟩
theorem at12 {P : Int → Addr → Prop} {r : Int} {t l0 l1 l2 l3 l4 l5 l6 l7 l8 l9 l10 l11 : Addr} (h : (r, t) ∈ [((0 : Int), l0), (1, l1), (2, l2), (3, l3), (4, l4), (5, l5), (6, l6), (7, l7), (8, l8), (9, l9), (10, l10), (11, l11)]) (h0 : P 0 l0) (h1 : P 1 l1) (h2 : P 2 l2) (h3 : P 3 l3) (h4 : P 4 l4) (h5 : P 5 l5) (h6 : P 6 l6) (h7 : P 7 l7) (h8 : P 8 l8) (h9 : P 9 l9) (h10 : P 10 l10) (h11 : P 11 l11) : P r t := by
  simp only [List.mem_cons, List.not_mem_nil, or_false, Prod.mk.injEq] at h
  rcases h with ⟨rfl, rfl⟩ | ⟨rfl, rfl⟩ | ⟨rfl, rfl⟩ | ⟨rfl, rfl⟩ | ⟨rfl, rfl⟩ | ⟨rfl, rfl⟩ | ⟨rfl, rfl⟩ | ⟨rfl, rfl⟩ | ⟨rfl, rfl⟩ | ⟨rfl, rfl⟩ | ⟨rfl, rfl⟩ | ⟨rfl, rfl⟩ <;> assumption
theorem one_sorted {prog : Program} {w : World} {p : Program} {loose : List Str} {mean : ExcName → Option Value} {mg mb : Str → Option Value} {src t : Addr} {o : Obj} {news : List (Addr × Obj)} {g : Obj → List (Addr × Obj)} {r : Int} (U : UpdF src o news g) (ho : SrcOk o) (hs : SortAt news src r t) :
    Spec prog w p loose mean mg mb 354 [.ref src, .ref t] news 2 16 (fun v nn => (∃ x tk, v = .str x tk ∧ (r, x) ∈ wordPairs) ∧ ∃ o', SrcOk o' ∧ nn = g o') := by
  obtain ⟨vs, n, hm, hne, h0, h1, hv⟩ := hs
  intro dp un gd cn cs a ccd cl outer A₀ base h₀ L m s Q E B F X N T hk hd hu hret
  exact Spec.use (one_spec U ho hm hne h0 h1) B F X N T hk hd hu fun v nn h' tk' hp F' N' => hret v nn h' tk' ⟨hv v hp.1, hp.2⟩ F' N'
theorem sorted_use {prog : Program} {w : World} {p : Program} {loose : List Str} {mean : ExcName → Option Value} {mg mb : Str → Option Value} {src : Addr} {o : Obj} {news : List (Addr × Obj)} {g : Obj → List (Addr × Obj)} {t : Addr} {r : Int} {dp un : Nat} {gd : Option (List Code)} {cn : Str} {cs : Scope} {a : Addr} {ccd : Value} {cl : List (Str × Addr)} {outer : List Env} {A₀ : Around} {base h₀ : Heap} {L : Addr} {m : Str → Option Value} {s : Shared} {Q E : Value → Shared → Prop}
    (B : Below A₀ base outer h₀) (F : Fr h₀ L s.heap m) (X : (hd.heap_39 w.params).In h₀) (N : News h₀ L s.heap news) (T : Top p loose mean mg mb h₀) (hk : cs.kind = .function) (U : UpdF src o news g) (ho : SrcOk o) (hs : SortAt news src r t) (hdp : dp + 2 < recursionLimit) (hun : un + 16 < cLine)
    (ret : ∀ (x : Str) (tk : Tok) (o' : Obj) (h' : Heap) (tk' : Nat), (r, x) ∈ wordPairs → SrcOk o' → Fr h₀ L h' m → News h₀ L h' (g o') → Q (.str x tk) { s with heap := h', toks := tk' }) :
    wpAny (model prog w) (ktrTop dp un gd cn cs L a ccd cl outer) (call (.ref 354) [.ref src, .ref t]) Q E s := Spec.use (one_sorted U ho hs) B F X N T hk hdp hun fun v nn h' tk' hp F' N' => by
  obtain ⟨⟨x, tk, e, a1⟩, o', a2, e2⟩ := hp
  subst e; subst e2; exact ret x tk o' h' tk' a1 a2 F' N'
theorem pair_two {r : Int} {wd c : Str} {l : List (Int × Str)} {A B : Prop} (hw : (r, wd) ∈ l) (hA : (r, wd) ∈ (l.filter fun y => y.2 == c) → A) (hB : (r, wd) ∈ (l.filter fun y => !(y.2 == c)) → B) : if (wd == c) = true then A else B := by
  by_cases e : (wd == c) = true
  · rw [if_pos e]; exact hA (List.mem_filter.mpr ⟨hw, e⟩)
  · rw [if_neg e]; exact hB (List.mem_filter.mpr ⟨hw, by simpa using e⟩)
theorem place_two {r c : Int} {wd : Str} {l : List (Int × Str)} {A B : Prop} (hw : (r, wd) ∈ l) (hA : (r, wd) ∈ (l.filter fun y => y.1 == c) → A) (hB : (r, wd) ∈ (l.filter fun y => !(y.1 == c)) → B) : if (r == c) = true then A else B := by
  by_cases e : (r == c) = true
  · rw [if_pos e]; exact hA (List.mem_filter.mpr ⟨hw, e⟩)
  · rw [if_neg e]; exact hB (List.mem_filter.mpr ⟨hw, by simpa using e⟩)
theorem pair_fst {r k : Int} {wd : Str} {l : List (Int × Str)} (h : (r, wd) ∈ l) (e : (l.all fun y => y.1 == k) = true) : r = k := eq_of_beq (List.all_eq_true.mp e _ h)
theorem pair_snd {r : Int} {wd : Str} {l : List (Int × Str)} (ws : List Str) (h : (r, wd) ∈ l) (e : (l.all fun y => decide (y.2 ∈ ws)) = true) : wd ∈ ws := of_decide_eq_true (List.all_eq_true.mp e _ h)
theorem lv_pair {r : Int} {y : Str} {l : List (Int × Str)} (hw : (r, y) ∈ l) (h : (l.all fun p => lvOk p.1 p.2) = true) : (Spec.lookup (.str y) opTab).getD (.int 4) = .int r := by
  have := List.all_eq_true.mp h _ hw
  unfold lvOk at this
  split at this
  · rename_i i e
    rw [e, eq_of_beq this]
  · cases this
theorem if_place {prog : Program} {w : World} {A : Around} {E : Value → Shared → Prop} {s : Shared} {cn : Str} {cs : Scope} {L a : Addr} {ccd : Value} {h₀ : Heap} {m : Str → Option Value} {x : Str} {c r : Int} {np cp tp pos : Pos} {k : Nat} {t : Tok} {body orelse : List Stmt} {Q : Flow → Shared → Prop}
    (F : Fr h₀ L s.heap m) (hv : m x = some (.int r t))
    (h : if (r == c) = true then wpAny (model prog w) A (execs body (envOf cn cs L a ccd)) Q E { s with toks := s.toks + 1 } else wpAny (model prog w) A (execs orelse (envOf cn cs L a ccd)) Q E { s with toks := s.toks + 1 })
    (hk : cs.kind = .function) (hx : (envOf cn cs L a ccd).kindOf x = some .local) (hd : (x == ("__debug__" : Str)) = false) :
    wpAny (model prog w) A (exec (.If (.Compare (.Name x np) [.Eq] [.Constant (.int c) k cp] tp) body orelse pos) (envOf cn cs L a ccd)) Q E s :=
  wpAny_If (wpAny_isTrue_Compare1 (ld F hv (wpAny_Constant_int (eq_int (wpAny_truthy_bool h))) hk hx hd))
theorem mem4 {x a b c d : Str} (h : x ∈ [a, b, c, d]) : x = a ∨ x = b ∨ x = c ∨ x = d := by simpa only [List.mem_cons, List.not_mem_nil, or_false] using h
theorem news_tail {h₀ h : Heap} {L : Addr} {q : Addr × Obj} {l : List (Addr × Obj)} (N : News h₀ L h (q :: l)) : News h₀ L h l := fun p hp => N p (.tail _ hp)
section
theorem rows_c11_4 : True := by
  (k_with "call ref" => (k_here; (with_reducible show wpAny _ _ (call (Value.ref 347) [Value.ref _, Value.int _ _]) _ _ _); k_dflt (refine take_use (by k_asm) (by k_asm) (by k_asm) (by k_asm) (by k_asm) (by first | exact rfl | assumption) (by k_updF) (by assumption) (by first | decide | omega) (by first | decide | omega) (by ktr_room) (by ktr_units) ?_); intro r9 t9 o9 h9 tk9 hlo9 hhi9 hs9 F9 N9; (have hhi8 : r9 < 12 := hhi9); (try dsimp only at N9 ⊢); (try k_fold)))
  (k_with "subscriptTail Name Name ref int" => (k_here; k_dflt (refine item_pick (News.isList (by k_asm) (by k_mem)) (by assumption) (by assumption) ?_ (by with_unfolding_all rfl) (by intro _; with_unfolding_all rfl)); intro t8 ht8))
  (k_with "call ref" => (k_here; (with_reducible show wpAny _ _ (call (Value.ref 354) [Value.ref _, Value.ref _]) _ _ _); k_dflt (refine one_use (by k_asm) (by k_asm) (by k_asm) (by k_asm) (by k_asm) (by first | exact rfl | assumption) (by k_updF) (by assumption) (by k_mem) (by k_ne) (by exact Nat.zero_lt_succ _) (by exact Nat.le_of_ble_eq_true rfl) (by ktr_room) (by ktr_units) ?_); intro v9 o9 h9 tk9 hm9 hs9 F9 N9; (try dsimp only at N9 ⊢); (try k_fold)))
  (k_with "call ref" => (k_here; (with_reducible show wpAny _ _ (call (Value.ref 354) [Value.ref _, Value.ref _]) _ _ _); (have hq8 := ht8); k_dflt (refine sorted_use (by k_asm) (by k_asm) (by k_asm) (by k_asm) (by k_asm) (by first | exact rfl | assumption) (by k_updF) (by assumption) (at12 hq8 (sort_at 0 [Str.ofString "/"] (by k_mem) (by k_ne) (by exact Nat.zero_lt_succ _) (by exact Nat.le_of_ble_eq_true rfl) (by rfl) (by rfl) (by decide +kernel)) (sort_at 1 [Str.ofString "or"] (by k_mem) (by k_ne) (by exact Nat.zero_lt_succ _) (by exact Nat.le_of_ble_eq_true rfl) (by rfl) (by rfl) (by decide +kernel)) (sort_at 2 [Str.ofString "and"] (by k_mem) (by k_ne) (by exact Nat.zero_lt_succ _) (by exact Nat.le_of_ble_eq_true rfl) (by rfl) (by rfl) (by decide +kernel)) (sort_at 3 [Str.ofString "=", Str.ofString "!="] (by k_mem) (by k_ne) (by exact Nat.zero_lt_succ _) (by exact Nat.le_of_ble_eq_true rfl) (by rfl) (by rfl) (by decide +kernel)) (sort_at 4 [Str.ofString "<", Str.ofString "<=", Str.ofString ">", Str.ofString ">="] (by k_mem) (by k_ne) (by exact Nat.zero_lt_succ _) (by exact Nat.le_of_ble_eq_true rfl) (by rfl) (by rfl) (by decide +kernel)) (sort_at 5 [Str.ofString "+", Str.ofString "-"] (by k_mem) (by k_ne) (by exact Nat.zero_lt_succ _) (by exact Nat.le_of_ble_eq_true rfl) (by rfl) (by rfl) (by decide +kernel)) (sort_at 6 [Str.ofString "*", Str.ofString "div", Str.ofString "mod"] (by k_mem) (by k_ne) (by exact Nat.zero_lt_succ _) (by exact Nat.le_of_ble_eq_true rfl) (by rfl) (by rfl) (by decide +kernel)) (sort_at 7 [Str.ofString "negated"] (by k_mem) (by k_ne) (by exact Nat.zero_lt_succ _) (by exact Nat.le_of_ble_eq_true rfl) (by rfl) (by rfl) (by decide +kernel)) (sort_at 8 [Str.ofString "|"] (by k_mem) (by k_ne) (by exact Nat.zero_lt_succ _) (by exact Nat.le_of_ble_eq_true rfl) (by rfl) (by rfl) (by decide +kernel)) (sort_at 9 [Str.ofString "step", Str.ofString "inner"] (by k_mem) (by k_ne) (by exact Nat.zero_lt_succ _) (by exact Nat.le_of_ble_eq_true rfl) (by rfl) (by rfl) (by decide +kernel)) (sort_at 10 [Str.ofString "filter"] (by k_mem) (by k_ne) (by exact Nat.zero_lt_succ _) (by exact Nat.le_of_ble_eq_true rfl) (by rfl) (by rfl) (by decide +kernel)) (sort_at 11 [Str.ofString "text", Str.ofString "number", Str.ofString "variable", Str.ofString "call"] (by k_mem) (by k_ne) (by exact Nat.zero_lt_succ _) (by exact Nat.le_of_ble_eq_true rfl) (by rfl) (by rfl) (by decide +kernel))) (by ktr_room) (by ktr_units) ?_); clear hq8 ht8; intro x9 t9 o9 h9 tk9 hw9 hs9 F9 N9; (try dsimp only at N9 ⊢); (iterate 13 (replace N9 := news_tail N9)); (try k_fold)))
  (k_with "exec If" => (k_here; (with_reducible show wpAny _ _ (exec (Stmt.If (PySem.Expr.Compare (PySem.Expr.Name _ _) [CmpOp.Eq] [PySem.Expr.Constant (PySem.Const.str _) _ _] _) _ _ _) _) _ _ _); k_dflt (refine if_word (by k_asm) (by exact rfl) ?_ (by exact rfl) (by exact rfl) (by decide)); (refine pair_two hw9 ?_ ?_ <;> (clear hw9; intro hw9)); (focus (first | (have hr9 := pair_fst (k := 0) hw9 (by decide +kernel)) | (have hr9 := pair_fst (k := 7) hw9 (by decide +kernel)) | (have hr9 := pair_fst (k := 9) hw9 (by decide +kernel)) | (have hr9 := pair_fst (k := 10) hw9 (by decide +kernel))); subst hr9)))
  (k_with "exec If" => (k_here; (with_reducible show wpAny _ _ (exec (Stmt.If (PySem.Expr.Compare (PySem.Expr.Name _ _) [CmpOp.Eq] [PySem.Expr.Constant (PySem.Const.int _) _ _] _) _ _ _) _) _ _ _); k_dflt (refine if_place (by k_asm) (by exact rfl) ?_ (by exact rfl) (by exact rfl) (by decide)); (refine place_two hw9 ?_ ?_ <;> (clear hw9; intro hw9)); (focus (have hr9 := pair_fst (k := 11) hw9 (by decide +kernel)); subst hr9)))
  (k_with "subscriptTail Name Name ref str" => (k_here; (replace hw9 := pair_snd [Str.ofString "text", Str.ofString "number", Str.ofString "variable", Str.ofString "call"] hw9 (by decide +kernel)); (rcases mem4 hw9 with e9 | e9 | e9 | e9 <;> subst e9)))
  (k_with "tb" => (first
  | (apply level_lit; k_mem; k_mem)
  | (apply level_num; k_mem; k_mem)
  | (apply level_var; k_mem; k_mem)
  | (apply level_call; k_mem; k_mem)
  | (apply level_neg; k_mem; k_mem)
  | (apply level_filter; k_mem; k_mem)
  | (apply level_root; k_mem; k_mem; k_mem)
  | (apply level_path_node; k_mem; k_mem; k_mem; k_mem)
  | (apply level_path_any; k_mem; k_mem; assumption; k_mem)
  | (apply level_bin; k_mem; k_mem; (exact lv_pair (by assumption) (by decide +kernel)))))
  trivial
set_option maxHeartbeats 1500000 in
theorem weight_spec {prog : Program} {w : World} {p : Program} {loose : List Str} {mean : ExcName → Option Value} {mg mb : Str → Option Value} {src : Addr} {o : Obj} {news : List (Addr × Obj)} {g : Obj → List (Addr × Obj)}
    (U : UpdF src o news g) (ho : SrcOk o) :
    Spec prog w p loose mean mg mb 361 [.ref src] news 4 500 (fun v nn => ∃ r x wt tw n o', v = .ref r ∧ (r, ({ cls := .type "tuple", data := .seq [.ref x, .int wt tw].toArray n } : Obj)) ∈ nn ∧ (src, o') ∈ nn ∧ SrcOk o' ∧ (∀ q ∈ news, q.1 ≠ src → q ∈ nn) ∧ LevelIs prog w p loose mean mg mb nn x wt) := by
  obtain ⟨pre, post, rfl, hg, hpre, hpost⟩ := U.split
  clear U
  have hap := apart hpre hpost
  intro dp un gd cn cs a ccd cl outer A₀ base h₀ L m s Q E B F X N T hk hd hu hret
  replace N := news_perm N to_front
  have hin : ∀ {nn : List (Addr × Obj)}, (∀ q ∈ pre ++ post, q ∈ nn) → ∀ q ∈ pre ++ (src, o) :: post, q.1 ≠ src → q ∈ nn := rest_in
  generalize hrest : pre ++ post = rest at hap N hin
  refine wpAny_call ?_
  k_dflt cell_enter
  repeat' (first | (k_unfold; (try dsimp only)) | ((fail_if_success (with_reducible show Q _ _)); first | walk1 | (dsimp only; walk1) | (leave1; walk_say "STEP leave1"; (try dsimp only))))
  all_goals refine hret _ _ _ _ ?_ (by k_asm) (by k_asm)
  all_goals refine ⟨_, _, _, _, _, _, rfl, by k_mem, by k_mem, by assumption, hin (by intro q hq; repeat (first | exact hq | refine List.mem_cons_of_mem _ ?_)), ?_⟩
  all_goals k_extra "tb"
end
end
end
section
theorem rows_c12 : True := by
  k_with_none
  (k_with "ite" => first | with_reducible refine ite_tt ?_ | with_reducible refine ite_ff ?_)
  (k_with "mem" => first | with_reducible assumption | ((fail_if_success (refine' List.Mem.tail _ ?_)); assumption))
  (k_with "room" => ((try simp only [depth_mark, depth_under_make, depth_under_kw, depth_in1, depth_deeper, depth_caller]); (try dsimp only [ktrTop]); (first | exact room0 (by with_reducible assumption) | exact room1 (by with_reducible assumption) (by decide) | exact room2 (by with_reducible assumption) (by decide) | exact room3 (by with_reducible assumption) (by decide) | omega)))
  (k_with "units" => ((try simp only [units_in1, units_deeper, Around.mark_units, units_caller]); (try dsimp only [ktrTop]); (first | exact room0 (by with_reducible assumption) | exact room1 (by with_reducible assumption) (by decide) | exact room2 (by with_reducible assumption) (by decide) | exact room3 (by with_reducible assumption) (by decide) | omega)))
  (k_with "ne" => (refine neN ?_; first | exact ne0 (by with_reducible assumption) | exact ne1 (by with_reducible assumption) | exact ne2 (by with_reducible assumption) | exact ne3 (by with_reducible assumption) | exact ne4 (by with_reducible assumption) | exact ne5 (by with_reducible assumption) | ((try dsimp only); omega)))
  (k_with "subscriptTail Name Constant ref int" => (k_here; k_dflt (refine item_listL (News.isList (by k_asm) (by k_mem)) (by decide) (by decide) (by exact rfl) ?_ (by with_unfolding_all rfl) (by intro _; with_unfolding_all rfl); k_whole)))
  (k_with "subscriptTail Name Name ref int" => (k_here; k_dflt (refine item_listL (News.isList (by k_asm) (by k_mem)) (by decide) (by decide) (by exact rfl) ?_ (by with_unfolding_all rfl) (by intro _; with_unfolding_all rfl); k_whole)))
  (k_with "call ref" => (k_here; (with_reducible show wpAny _ _ (call (Value.ref 347) [Value.ref _, Value.int _ _]) _ _ _); k_dflt (refine take_use (by k_asm) (by k_asm) (by k_asm) (by k_asm) (by k_asm) (by first | exact rfl | assumption) (by k_updF) (by assumption) (by first | decide | omega) (by first | decide | omega) (by ktr_room) (by ktr_units) ?_); intro r9 t9 o9 h9 tk9 hlo9 hhi9 hs9 F9 N9; (try dsimp only at N9 hhi9 ⊢); (try k_fold)))
  (k_with "ke_room" => ktr_units)
  (k_with "compareOp Eq ref ref" => (k_here; k_dflt (refine tup_eq0 (News.isTup (by k_asm) (by k_mem)) (News.isTup (by k_asm) (by k_mem)) (by ktr_units) (by exact Nat.succ_ne_zero _) ?_)))
  (k_with "compareOp Eq ref" => (k_here; (with_reducible show wpAny _ _ (compareOp CmpOp.Eq (Value.ref _) (Value.str _ _)) _ _ _); k_dflt (refine eq_var_str (by k_asm) (by k_asm) (by k_asm) (by k_mem) (by ktr_units) ?_)))
  (k_with "call ref" => (k_here; (with_reducible show wpAny _ _ (call (Value.ref 77) _) _ _ _); k_dflt (refine make_lit_use (by k_asm) (by k_asm) (by k_asm) (by k_asm) (by k_asm) (by first | exact rfl | assumption) (by ktr_room) (by ktr_units) ?_); intro x9 d9 t90 h9 tk9 l1 l2 F9 N9; (try k_lt l1); (try k_lt2 l2); (try k_sweep); (try dsimp only at N9 ⊢); (try k_fold)))
  (k_with "call ref" => (k_here; (with_reducible show wpAny _ _ (call (Value.ref 105) _) _ _ _); k_dflt (refine make_num_use (by k_asm) (by k_asm) (by k_asm) (by k_asm) (by k_asm) (by first | exact rfl | assumption) (by ktr_room) (by ktr_units) ?_); intro x9 d9 t90 h9 tk9 l1 l2 F9 N9; (try k_lt l1); (try k_lt2 l2); (try k_sweep); (try dsimp only at N9 ⊢); (try k_fold)))
  (k_with "call ref" => (k_here; (with_reducible show wpAny _ _ (call (Value.ref 133) _) _ _ _); k_dflt (refine make_var_use (by k_asm) (by k_asm) (by k_asm) (by k_asm) (by k_asm) (by first | exact rfl | assumption) (by ktr_room) (by ktr_units) ?_); intro x9 d9 t90 h9 tk9 l1 l2 F9 N9; (try k_lt l1); (try k_lt2 l2); (try k_sweep); (try dsimp only at N9 ⊢); (try k_fold)))
  (k_with "call ref" => (k_here; (with_reducible show wpAny _ _ (call (Value.ref 161) _) _ _ _); k_dflt (refine make_call_use (by k_asm) (by k_asm) (by k_asm) (by k_asm) (by k_asm) (by first | exact rfl | assumption) (by ktr_room) (by ktr_units) ?_); intro x9 d9 t90 t91 h9 tk9 l1 l2 F9 N9; (try k_lt l1); (try k_lt2 l2); (try k_sweep); (try dsimp only at N9 ⊢); (try k_fold)))
  (k_with "call ref" => (k_here; (with_reducible show wpAny _ _ (call (Value.ref 189) _) _ _ _); k_dflt (refine make_bin_use (by k_asm) (by k_asm) (by k_asm) (by k_asm) (by k_asm) (by first | exact rfl | assumption) (by ktr_room) (by ktr_units) ?_); intro x9 d9 t90 t91 t92 h9 tk9 l1 l2 F9 N9; (try k_lt l1); (try k_lt2 l2); (try k_sweep); (try dsimp only at N9 ⊢); (try k_fold)))
  (k_with "call ref" => (k_here; (with_reducible show wpAny _ _ (call (Value.ref 217) _) _ _ _); k_dflt (refine make_neg_use (by k_asm) (by k_asm) (by k_asm) (by k_asm) (by k_asm) (by first | exact rfl | assumption) (by ktr_room) (by ktr_units) ?_); intro x9 d9 t90 h9 tk9 l1 l2 F9 N9; (try k_lt l1); (try k_lt2 l2); (try k_sweep); (try dsimp only at N9 ⊢); (try k_fold)))
  (k_with "call ref" => (k_here; (with_reducible show wpAny _ _ (call (Value.ref 245) _) _ _ _); k_dflt (refine make_filter_use (by k_asm) (by k_asm) (by k_asm) (by k_asm) (by k_asm) (by first | exact rfl | assumption) (by ktr_room) (by ktr_units) ?_); intro x9 d9 t90 t91 h9 tk9 l1 l2 F9 N9; (try k_lt l1); (try k_lt2 l2); (try k_sweep); (try dsimp only at N9 ⊢); (try k_fold)))
  (k_with "call ref" => (k_here; (with_reducible show wpAny _ _ (call (Value.ref 273) _) _ _ _); k_dflt (refine make_path_use (by k_asm) (by k_asm) (by k_asm) (by k_asm) (by k_asm) (by first | exact rfl | assumption) (by ktr_room) (by ktr_units) ?_); intro x9 d9 t90 t91 h9 tk9 l1 l2 F9 N9; (try k_lt l1); (try k_lt2 l2); (try k_sweep); (try dsimp only at N9 ⊢); (try k_fold)))
  (k_with "call ref" => (k_here; (with_reducible show wpAny _ _ (call (Value.ref 301) _) _ _ _); k_dflt (refine make_step_use (by k_asm) (by k_asm) (by k_asm) (by k_asm) (by k_asm) (by first | exact rfl | assumption) (by ktr_room) (by ktr_units) ?_); intro x9 d9 t90 t91 t92 h9 tk9 l1 l2 F9 N9; (try k_lt l1); (try k_lt2 l2); (try k_sweep); (try dsimp only at N9 ⊢); (try k_fold)))
  trivial
section
theorem gcd_turn {x y a b : Int} (hx : 0 ≤ x) (hy : 0 < y) (h : Int.gcd x y = Int.gcd a b) : Int.gcd y (x.fmod y) = Int.gcd a b := by
  rw [Int.fmod_eq_emod_of_nonneg _ (by omega), ← h]
  obtain ⟨m, rfl⟩ := Int.eq_ofNat_of_zero_le hx
  obtain ⟨n, rfl⟩ := Int.eq_ofNat_of_zero_le (Int.le_of_lt hy)
  rw [← Int.natCast_emod]
  simp only [Int.gcd_natCast_natCast]
  rw [Nat.gcd_comm n, Nat.gcd_comm m n]
  exact (Nat.gcd_rec n m).symm
theorem one_is {x y a b : Int} (hx : 0 ≤ x) (hy : 0 ≤ y) (hn : ¬ 0 < y) (h : Int.gcd x y = Int.gcd a b) (hb : 0 < b) : x = (Int.gcd a b : Nat) ∧ 0 < ((Int.gcd a b : Nat) : Int) := by
  have e : y = 0 := by omega
  subst e
  have hp : 0 < Int.gcd a b := Int.gcd_pos_of_ne_zero_right a (by omega)
  rw [Int.gcd_zero_right] at h
  omega
theorem fmod_less {x y : Int} (h : 0 < y) : (x.fmod y).toNat < y.toNat := by
  have h1 := fmod_lo x h
  have h2 := fmod_hi x h
  omega
theorem low_state {x y a b : Int} (hx : 0 ≤ x) (hy' : y < 1000000000000) (h : 0 < y) (hg : Int.gcd x y = Int.gcd a b) : 0 ≤ y ∧ 0 ≤ x.fmod y ∧ y < 1000000000000 ∧ x.fmod y < 1000000000000 ∧ Int.gcd y (x.fmod y) = Int.gcd a b := by
  have h1 := fmod_lo x h
  have h2 := fmod_hi x h
  exact ⟨by omega, h1, hy', by omega, gcd_turn hx h hg⟩
theorem no_py {x y : Int} (h0 : 0 < y) (h1 : y < 1000000000000) : Builtin.divisionGoesByPylong x y = false := by
  refine PyProof.noPylong_of_log2 ?_
  have h40 : y.natAbs.log2 < 40 := (Nat.log2_lt (by omega)).mpr (by omega)
  omega
theorem drop_snd {a b : Addr × Obj} {l : List (Addr × Obj)} : ∀ p ∈ a :: l, p ∈ a :: b :: l := fun p hp => by
  rcases List.mem_cons.mp hp with e | e
  · exact List.mem_cons.mpr (.inl e)
  · exact .tail _ (.tail _ e)
section
theorem rows_c12_5 : True := by
  (k_with "binaryOp FloorDiv int int" => (refine floordiv_int ?_ ?_ (Or.inl (no_py (by assumption) (by assumption))); (exact Int.ne_of_gt (by assumption))))
  trivial
set_option maxHeartbeats 1000000 in
theorem lowest_spec {prog : Program} {w : World} {p : Program} {loose : List Str} {mean : ExcName → Option Value} {mg mb : Str → Option Value} {news : List (Addr × Obj)} {a b : Int} {ta tb : Tok}
    (ha : 0 ≤ a) (hb : 0 < b) (ha' : a < 1000000000000) (hb' : b < 1000000000000) :
    Spec prog w p loose mean mg mb 368 [.int a ta, .int b tb] news 2 400 (fun v nn => ∃ r t1 t2 n, v = .ref r ∧ nn = (r, ({ cls := .type "tuple", data := .seq [.int (a.fdiv (Int.gcd a b : Nat)) t1, .int (b.fdiv (Int.gcd a b : Nat)) t2].toArray n } : Obj)) :: news ∧ ∀ q ∈ news, q.1 < r) := by
  intro dp un gd cn cs a' ccd cl outer A₀ base h₀ L m s Q E B F X N T hk hd hu hret
  k_with "exec While Compare cons nil" => k_while (fun (_ : List Int) x y => 0 ≤ x ∧ 0 ≤ y ∧ x < 1000000000000 ∧ y < 1000000000000 ∧ Int.gcd x y = Int.gcd a b) (fun (_ : List Int) x y => y.toNat) "one" "other"
  k_with "state" => first | exact low_state (by assumption) (by assumption) (by assumption) (by assumption) | exact ⟨ha, Int.le_of_lt hb, ha', hb', rfl⟩
  k_with "measure" => exact fmod_less (by assumption)
  refine wpAny_call ?_
  k_dflt cell_enter
  repeat' (first | (k_unfold; (try dsimp only)) | ((fail_if_success (with_reducible show Q _ _)); first | walk1 | (dsimp only; walk1) | (leave1; walk_say "STEP leave1"; (try dsimp only))))
  rename Int.gcd _ _ = Int.gcd a b => hgcd
  rename ¬ (0 : Int) < _ => hnot
  obtain ⟨e, hpos⟩ := one_is (by assumption) (by assumption) hnot hgcd hb
  subst e
  repeat' (first | (k_unfold; (try dsimp only)) | ((fail_if_success (with_reducible show Q _ _)); first | walk1 | (dsimp only; walk1) | (leave1; walk_say "STEP leave1"; (try dsimp only))))
  refine hret _ (_ :: news) _ _ ⟨_, _, _, _, rfl, rfl, all_lt_of (And.right (by assumption))⟩ (by k_asm) (news_perm (by assumption) drop_snd)
end
end
end
theorem rows_c13 : True := by
  k_with_none
  (k_with "ite" => first | with_reducible refine ite_tt ?_ | with_reducible refine ite_ff ?_)
  (k_with "mem" => first | with_reducible assumption | ((fail_if_success (refine' List.Mem.tail _ ?_)); assumption))
  (k_with "room" => ((try simp only [depth_mark, depth_under_make, depth_under_kw, depth_in1, depth_deeper, depth_caller]); (try dsimp only [ktrTop]); (first | exact room0 (by with_reducible assumption) | exact room1 (by with_reducible assumption) (by decide) | exact room2 (by with_reducible assumption) (by decide) | exact room3 (by with_reducible assumption) (by decide) | omega)))
  (k_with "units" => ((try simp only [units_in1, units_deeper, Around.mark_units, units_caller]); (try dsimp only [ktrTop]); (first | exact room0 (by with_reducible assumption) | exact room1 (by with_reducible assumption) (by decide) | exact room2 (by with_reducible assumption) (by decide) | exact room3 (by with_reducible assumption) (by decide) | omega)))
  (k_with "ne" => (refine neN ?_; first | exact ne0 (by with_reducible assumption) | exact ne1 (by with_reducible assumption) | exact ne2 (by with_reducible assumption) | exact ne3 (by with_reducible assumption) | exact ne4 (by with_reducible assumption) | exact ne5 (by with_reducible assumption) | ((try dsimp only); omega)))
  (k_with "subscriptTail Name Constant ref int" => (k_here; k_dflt (refine item_listL (News.isList (by k_asm) (by k_mem)) (by decide) (by decide) (by exact rfl) ?_ (by with_unfolding_all rfl) (by intro _; with_unfolding_all rfl); k_whole)))
  (k_with "subscriptTail Name Name ref int" => (k_here; k_dflt (refine item_listL (News.isList (by k_asm) (by k_mem)) (by decide) (by decide) (by exact rfl) ?_ (by with_unfolding_all rfl) (by intro _; with_unfolding_all rfl); k_whole)))
  (k_with "call ref" => (k_here; (with_reducible show wpAny _ _ (call (Value.ref 347) [Value.ref _, Value.int _ _]) _ _ _); k_dflt (refine take_use (by k_asm) (by k_asm) (by k_asm) (by k_asm) (by k_asm) (by first | exact rfl | assumption) (by k_updF) (by assumption) (by first | decide | omega) (by first | decide | omega) (by ktr_room) (by ktr_units) ?_); intro r9 t9 o9 h9 tk9 hlo9 hhi9 hs9 F9 N9; (try dsimp only at N9 hhi9 ⊢); (try k_fold)))
  (k_with "ke_room" => ktr_units)
  (k_with "compareOp Eq ref ref" => (k_here; k_dflt (refine tup_eq0 (News.isTup (by k_asm) (by k_mem)) (News.isTup (by k_asm) (by k_mem)) (by ktr_units) (by exact Nat.succ_ne_zero _) ?_)))
  (k_with "compareOp Eq ref" => (k_here; (with_reducible show wpAny _ _ (compareOp CmpOp.Eq (Value.ref _) (Value.str _ _)) _ _ _); k_dflt (refine eq_var_str (by k_asm) (by k_asm) (by k_asm) (by k_mem) (by ktr_units) ?_)))
  (k_with "call ref" => (k_here; (with_reducible show wpAny _ _ (call (Value.ref 77) _) _ _ _); k_dflt (refine make_lit_use (by k_asm) (by k_asm) (by k_asm) (by k_asm) (by k_asm) (by first | exact rfl | assumption) (by ktr_room) (by ktr_units) ?_); intro x9 d9 t90 h9 tk9 l1 l2 F9 N9; (try k_lt l1); (try k_lt2 l2); (try k_sweep); (try dsimp only at N9 ⊢); (try k_fold)))
  (k_with "call ref" => (k_here; (with_reducible show wpAny _ _ (call (Value.ref 105) _) _ _ _); k_dflt (refine make_num_use (by k_asm) (by k_asm) (by k_asm) (by k_asm) (by k_asm) (by first | exact rfl | assumption) (by ktr_room) (by ktr_units) ?_); intro x9 d9 t90 h9 tk9 l1 l2 F9 N9; (try k_lt l1); (try k_lt2 l2); (try k_sweep); (try dsimp only at N9 ⊢); (try k_fold)))
  (k_with "call ref" => (k_here; (with_reducible show wpAny _ _ (call (Value.ref 133) _) _ _ _); k_dflt (refine make_var_use (by k_asm) (by k_asm) (by k_asm) (by k_asm) (by k_asm) (by first | exact rfl | assumption) (by ktr_room) (by ktr_units) ?_); intro x9 d9 t90 h9 tk9 l1 l2 F9 N9; (try k_lt l1); (try k_lt2 l2); (try k_sweep); (try dsimp only at N9 ⊢); (try k_fold)))
  (k_with "call ref" => (k_here; (with_reducible show wpAny _ _ (call (Value.ref 161) _) _ _ _); k_dflt (refine make_call_use (by k_asm) (by k_asm) (by k_asm) (by k_asm) (by k_asm) (by first | exact rfl | assumption) (by ktr_room) (by ktr_units) ?_); intro x9 d9 t90 t91 h9 tk9 l1 l2 F9 N9; (try k_lt l1); (try k_lt2 l2); (try k_sweep); (try dsimp only at N9 ⊢); (try k_fold)))
  (k_with "call ref" => (k_here; (with_reducible show wpAny _ _ (call (Value.ref 189) _) _ _ _); k_dflt (refine make_bin_use (by k_asm) (by k_asm) (by k_asm) (by k_asm) (by k_asm) (by first | exact rfl | assumption) (by ktr_room) (by ktr_units) ?_); intro x9 d9 t90 t91 t92 h9 tk9 l1 l2 F9 N9; (try k_lt l1); (try k_lt2 l2); (try k_sweep); (try dsimp only at N9 ⊢); (try k_fold)))
  (k_with "call ref" => (k_here; (with_reducible show wpAny _ _ (call (Value.ref 217) _) _ _ _); k_dflt (refine make_neg_use (by k_asm) (by k_asm) (by k_asm) (by k_asm) (by k_asm) (by first | exact rfl | assumption) (by ktr_room) (by ktr_units) ?_); intro x9 d9 t90 h9 tk9 l1 l2 F9 N9; (try k_lt l1); (try k_lt2 l2); (try k_sweep); (try dsimp only at N9 ⊢); (try k_fold)))
  (k_with "call ref" => (k_here; (with_reducible show wpAny _ _ (call (Value.ref 245) _) _ _ _); k_dflt (refine make_filter_use (by k_asm) (by k_asm) (by k_asm) (by k_asm) (by k_asm) (by first | exact rfl | assumption) (by ktr_room) (by ktr_units) ?_); intro x9 d9 t90 t91 h9 tk9 l1 l2 F9 N9; (try k_lt l1); (try k_lt2 l2); (try k_sweep); (try dsimp only at N9 ⊢); (try k_fold)))
  (k_with "call ref" => (k_here; (with_reducible show wpAny _ _ (call (Value.ref 273) _) _ _ _); k_dflt (refine make_path_use (by k_asm) (by k_asm) (by k_asm) (by k_asm) (by k_asm) (by first | exact rfl | assumption) (by ktr_room) (by ktr_units) ?_); intro x9 d9 t90 t91 h9 tk9 l1 l2 F9 N9; (try k_lt l1); (try k_lt2 l2); (try k_sweep); (try dsimp only at N9 ⊢); (try k_fold)))
  (k_with "call ref" => (k_here; (with_reducible show wpAny _ _ (call (Value.ref 301) _) _ _ _); k_dflt (refine make_step_use (by k_asm) (by k_asm) (by k_asm) (by k_asm) (by k_asm) (by first | exact rfl | assumption) (by ktr_room) (by ktr_units) ?_); intro x9 d9 t90 t91 t92 h9 tk9 l1 l2 F9 N9; (try k_lt l1); (try k_lt2 l2); (try k_sweep); (try dsimp only at N9 ⊢); (try k_fold)))
  trivial
section
def faultTail : List Value := [.ref 38, .type "Exception", .type "BaseException", .type "object"]
abbrev exc0 (dict : Option Addr) (t : Addr) : Obj := { cls := .ref 51, dict := dict, data := .fields #[.ref t, .none, .none, .none, .bool false, .none] }
abbrev tupOf (vs : List Value) : Obj := { cls := .type "tuple", data := .seq vs.toArray }
section
variable {prog : Program} {w : World} {A : Around} {E : Value → Shared → Prop} {R : Result → Shared → Prop} {h : Heap} {g : Array GenState} {d : Drawn} {t : Nat} {os : OsState}
variable {nm q : Str} {N : Addr} {bs : List Value} {hdct : Bool} {sn : List Str} {sub : List Value} {ab : Bool} {col : Option Bool} {dd : Option Addr} {k0 k1 k2 k3 k5 : Option Value}
theorem fault_check {M : Model} {rest : List Value} {Q : Unit → Shared → Prop} (hC : h.get? 51 = some (excClassObj nm q 51 N bs faultTail hdct sn sub ab col dd k0 k1 k2 k3 k5 "Exception.__new__"))
    (hq : Q () ⟨h, g, d, t, os⟩) : wpAny M A (checkBuiltinCall "Exception.__new__" ⟨.ref 51 :: rest, []⟩) Q E ⟨h, g, d, t, os⟩ := by
  have FB := PySem.F.excBase_Exception
  have hcont : (Value.ref 51 :: faultTail).contains (.type "Exception") = true := by decide +kernel
  have hstar := FB.noStar
  simp only [checkBuiltinCall, FB.newKind, FB.newSplit, FB.newRow]
  repeat (first | refine wpAny_loadPart_at hC ?_ | (refine wpAny_isSubtype_exc hC ?_; rw [hcont]) | refine wpAny_staticBase_exc hC ?_ | refine wpAny_madeBy_exc hC ?_ | simp only [bne_self_eq_false, Bool.false_eq_true, if_false] | wp_step)
  exact hq
set_option maxHeartbeats 1000000 in
theorem fault_new {rest : List Value} (hC : h.get? 51 = some (excClassObj nm q 51 N bs faultTail hdct sn sub ab col dd k0 k1 k2 k3 k5 "Exception.__new__"))
    (hq : R (.ok (.ret (.ref (h.objs.size + 1)))) ⟨(h.push (tupOf rest)).push (exc0 none h.objs.size), g, d, t, os⟩) (hrest : rest.length ≤ sizeLine) :
    codeAny (model prog w) A (.builtin "Exception.__new__" ⟨.ref 51 :: rest, []⟩) R ⟨h, g, d, t, os⟩ := by
  have FB := PySem.F.excBase_Exception
  have hends := FB.ends
  have hcB : (Value.ref 51 :: faultTail).contains (.type "Exception") = true := by decide +kernel
  have hcA : (Value.ref 51 :: faultTail).contains (.type "AttributeError") = false := by decide +kernel
  have hcN : (Value.ref 51 :: faultTail).contains (.type "NameError") = false := by decide +kernel
  refine codeAny_builtinAt FB.entry ?_
  unfold Builtin.«BaseException.__new__»
  refine PySem.wpAt_bind ?_
  show PySem.wpAt _ _ _ (stack >>= _) _ _ _
  refine PySem.wpAt_bind (PySem.wpAt_stack fun p below => PySem.wpAt_of_wpAny ?_)
  wp_walk
  refine PySem.wpAt_of_wpAny ?_
  rw [FB.owner]
  repeat (first | with_reducible refine wpAny_madeHere_exc FB.canon hC ?_ | with_reducible refine wpAny_loadPart_at hC ?_ | (with_reducible refine wpAny_isSubtype_exc hC ?_; first | rw [hcB] | rw [hcA] | rw [hcN]) | wp_step)
  show R _ _
  rw [Heap.size_push]
  exact hq
end
set_option maxHeartbeats 1000000 in
theorem fault_call {prog : Program} {w : World} {A : Around} {E : Value → Shared → Prop} {h : Heap} {g : Array GenState} {d : Drawn} {t : Nat} {os : OsState}
    {nm q : Str} {N : Addr} {bs : List Value} {hdct : Bool} {sn : List Str} {sub : List Value} {ab : Bool} {col : Option Bool} {dd : Option Addr} {k0 k1 k2 k3 k5 : Option Value} {fI : Addr} {rest : List Value} {Q : Value → Shared → Prop}
    (hC : h.get? 51 = some (excClassObj nm q 51 N bs faultTail hdct sn sub ab col dd k0 k1 k2 k3 k5 "Exception.__new__"))
    (X : (hd.heap_39 w.params).In h) (hi : findIn (hd.heap_39 w.params) (.ref 51) "__init__" = some (some (.ref fI))) (hf : typeIn (hd.heap_39 w.params) (.ref fI) = some (.type "function")) (hrest : rest.length ≤ sizeLine)
    (hq : wpAny (model prog w) (A.under (.builtin "type.__call__" ⟨.ref 51 :: rest, []⟩)) (call (.ref fI) (.ref (h.objs.size + 1) :: rest)) (fun v s' => v = .none ∧ Q (.ref (h.objs.size + 1)) s') E ⟨(h.push (tupOf rest)).push (exc0 none h.objs.size), g, d, t, os⟩) :
    wpAny (model prog w) A (call (.ref 51) rest) Q E ⟨h, g, d, t, os⟩ := by
  have FB := PySem.F.excBase_Exception
  have f1 := tc_lookup
  have f2 := tc_bind (.ref 51)
  have hT : (⟨h, g, d, t, os⟩ : Shared).TypeIs (.ref 51) "type" := ⟨_, hC, rfl⟩
  refine wpAny_call (codeAny_of_tree ?_)
  show wpAny _ _ (callAny (.ref 51) _) _ _ _
  repeat (any_goals (first | assumption | with_reducible refine wpAny_loadPart_at hC ?_ | wp_step))
  refine ⟨rfl, ?_⟩
  refine codeAny_call_builtin_at (Code.quiet_builtin _ (by decide +kernel)) entry_typeCall (wpAny_check_type_call_sub hC ?_)
  repeat (first | with_reducible refine wpAny_loadPart_at hC ?_ | with_reducible refine wpAny_madeBy_exc hC ?_ | wp_step)
  refine codeAny_call_builtin_code (Code.quiet_builtin _ FB.quiet) (fault_check hC ?_)
  refine fault_new hC ?_ hrest
  show wpAny _ _ _ _ _ ⟨(h.push (tupOf rest)).push (exc0 none h.objs.size), g, d, t, os⟩
  have k : ∀ b o, h.get? b = some o → ((h.push (tupOf rest)).push (exc0 none h.objs.size)).get? b = some o := fun b o e => Heap.get?_push_of_some _ (Heap.get?_push_of_some _ e)
  have hC₁ := k _ _ hC
  have hget : ((h.push (tupOf rest)).push (exc0 none h.objs.size)).get? (h.objs.size + 1) = some (exc0 none h.objs.size) := by heap_get
  have hcC : (Value.ref 51 :: faultTail).contains (.ref 51) = true := by simp
  have X₁ := X.keeps k
  have t1 : Looks (model prog w) ((h.push (tupOf rest)).push (exc0 none h.objs.size)) (typeOf (.ref (h.objs.size + 1))) (.ref 51) := (Looks.ld hget).andThen .now
  have i1 : Looks (model prog w) ((h.push (tupOf rest)).push (exc0 none h.objs.size)) (typeLookup (.ref 51) "__init__") (some (.ref fI)) := looks_findIn X₁ hi
  have b1 : Looks (model prog w) ((h.push (tupOf rest)).push (exc0 none h.objs.size)) (bindSpecial (.ref fI) (.ref (h.objs.size + 1))) (.ref fI, [.ref (h.objs.size + 1)]) := bind_fn X₁ _ hf
  unfold isInstance callSpecial? specialOf
  refine wpAny_bind (wpAny_bind (t1.here ?_))
  refine wpAny_isSubtype_exc (bm := faultTail) hC₁ ?_
  rw [hcC]
  simp only [Bool.not_true, Bool.false_eq_true, if_false]
  refine wpAny_bind (wpAny_holding (wpAny_bind (wpAny_bind (t1.here (i1.here ?_)))))
  refine wpAny_holding (wpAny_bind (b1.here ?_))
  refine wpAny_bind (wpAny_mono hq (fun v s' z => ?_) fun _ _ e => e)
  obtain ⟨rfl, z⟩ := z
  refine wpAny_pure ?_
  show wpAny _ _ (if (Value.none != Value.none) = true then _ else _) _ _ _
  rw [if_neg (by decide)]
  exact wpAny_pure z
theorem cls_fault {w : World} {h : Heap} (X : (hd.heap_39 w.params).In h) : ∃ (nm q : Str) (N : Addr) (bs : List Value) (sn : List Str) (sub : List Value) (ab : Bool) (col : Option Bool) (dd : Option Addr) (k0 k1 k2 k3 k5 : Option Value),
    h.get? 51 = some (excClassObj nm q 51 N bs faultTail true sn sub ab col dd k0 k1 k2 k3 k5 "Exception.__new__") := by
  refine ⟨_, _, _, _, _, _, _, _, _, _, _, _, _, _, X _ _ (by unfold faultTail; k_is)⟩
theorem fault_K {prog : Program} {w : World} {A : Around} {E : Value → Shared → Prop} {s : Shared} {h₀ : Heap} {L : Addr} {m : Str → Option Value} {news : List (Addr × Obj)} {fI : Addr} {v : Value} {Q : Value → Shared → Prop}
    (F : Fr h₀ L s.heap m) (X : (hd.heap_39 w.params).In h₀) (N : News h₀ L s.heap news) (hi : findIn (hd.heap_39 w.params) (.ref 51) "__init__" = some (some (.ref fI))) (hf : typeIn (hd.heap_39 w.params) (.ref fI) = some (.type "function"))
    (h : ∀ e t h', Fr h₀ L h' m → News h₀ L h' ((e, exc0 none t) :: (t, tupOf [v]) :: news) → (∀ p ∈ news, p.1 < t) → t < e →
      wpAny (model prog w) (A.under (.builtin "type.__call__" ⟨[.ref 51, v], []⟩)) (call (.ref fI) [.ref e, v]) (fun r s' => r = .none ∧ Q (.ref e) s') E { s with heap := h' }) :
    wpAny (model prog w) A (call (.ref 51) [v]) Q E s := by
  obtain ⟨nm, q, N', bs, sn, sub, ab, col, dd, k0, k1, k2, k3, k5, hC⟩ := cls_fault (X.keeps F.keep)
  obtain ⟨hh, g, d, t, os⟩ := s
  have N2 := (N.push F (tupOf [v])).push (F.push _) (exc0 none hh.objs.size)
  rw [Heap.size_push] at N2
  exact fault_call hC (X.keeps F.keep) hi hf (Nat.le_of_ble_eq_true rfl) (h _ hh.objs.size _ ((F.push _).push _) N2 (fun p hp => Heap.lt_size (N p hp).1) (Nat.lt_succ_self _))
theorem fault_check_init {M : Model} {A : Around} {E : Value → Shared → Prop} {h : Heap} {g : Array GenState} {d : Drawn} {t : Nat} {os : OsState}
    {nm q : Str} {N : Addr} {bs : List Value} {hdct : Bool} {sn : List Str} {sub : List Value} {ab : Bool} {col : Option Bool} {dd : Option Addr} {k0 k1 k2 k3 k5 : Option Value} {e : Addr} {oe : Obj} {rest : List Value} {Q : Unit → Shared → Prop}
    (hC : h.get? 51 = some (excClassObj nm q 51 N bs faultTail hdct sn sub ab col dd k0 k1 k2 k3 k5 "Exception.__new__")) (he : h.get? e = some oe) (hcls : oe.cls = .ref 51) (hq : Q () ⟨h, g, d, t, os⟩) :
    wpAny M A (checkBuiltinCall "Exception.__init__" ⟨.ref e :: rest, []⟩) Q E ⟨h, g, d, t, os⟩ := by
  have FB := PySem.F.excBase_Exception
  have hcB : (Value.ref 51 :: faultTail).contains (.type "Exception") = true := by decide +kernel
  have hshort := FB.noStar
  simp only [checkBuiltinCall, FB.initKind, FB.initSplit, FB.initRow]
  repeat (first | (with_reducible refine wpAny_loadPart_at he ?_; rw [hcls]) | with_reducible refine wpAny_loadPart_at hC ?_ | (with_reducible refine wpAny_isSubtype_exc hC ?_; rw [hcB]) | wp_step)
  refine wpAny_onRaise ?_
  rw [show ∀ (a b : String) (n : Nat), Bind.check ⟨.positional, "*", "Exception", .self, [⟨"args", .varPos, false⟩]⟩ a b n (List.map (fun x => x.fst) ({ pos := Value.ref e :: rest } : Args).kw) = pure () from
    fun a b n => check_star_args _ _ _ _ _ _]
  exact wpAny_pure hq
set_option maxHeartbeats 1000000 in
theorem init_K {prog : Program} {w : World} {A : Around} {E : Value → Shared → Prop} {s : Shared} {h₀ : Heap} {L : Addr} {m : Str → Option Value} {news : List (Addr × Obj)} {gn : Obj → List (Addr × Obj)} {e t0 : Addr} {v : Value} {Q : Value → Shared → Prop}
    (F : Fr h₀ L s.heap m) (X : (hd.heap_39 w.params).In h₀) (N : News h₀ L s.heap news) (U : UpdF e (exc0 none t0) news gn)
    (h : ∀ t1 h', Fr h₀ L h' m → News h₀ L h' ((t1, tupOf [v]) :: gn (exc0 none t1)) → (∀ p ∈ news, p.1 < t1) → Q .none { s with heap := h' }) :
    wpAny (model prog w) A (call (.builtin "Exception.__init__") [.ref e, v]) Q E s := by
  obtain ⟨nm, q, N', bs, sn, sub, ab, col, dd, k0, k1, k2, k3, k5, hC⟩ := cls_fault (X.keeps F.keep)
  obtain ⟨hh, g, d, t, os⟩ := s
  have FB := PySem.F.excBase_Exception
  obtain ⟨pre, post, rfl, hg, hpre, hpost⟩ := U.split
  have he : hh.get? e = some (exc0 none t0) := (N (e, exc0 none t0) (by simp)).1
  refine wpAny_call (codeAny_call_builtin FB.init.plain FB.initEntry (fault_check_init hC he rfl ?_))
  wp_walk
  have N1 := N.push F (tupOf [v])
  have F1 := F.push (tupOf [v])
  have hlt : ∀ p ∈ pre ++ (e, exc0 none t0) :: post, p.1 < hh.objs.size := fun p hp => Heap.lt_size (N p hp).1
  obtain ⟨F2, N2⟩ := news_upd (pre := (hh.objs.size, tupOf [v]) :: pre) (o' := exc0 none hh.objs.size) (f := Obj.mapFields fun x => x.setIfInBounds 0 (Value.ref hh.objs.size)) F1 N1
    (fun p hp => by
      rcases List.mem_cons.mp hp with rfl | hp
      · exact Nat.ne_of_gt (hlt (e, exc0 none t0) (by simp))
      · exact hpre p hp) hpost rfl rfl
  exact h _ _ F2 (by rw [hg]; exact N2) hlt
set_option maxHeartbeats 1000000 in
theorem set_K {prog : Program} {w : World} {A : Around} {E : Value → Shared → Prop} {s : Shared} {h₀ : Heap} {L : Addr} {m : Str → Option Value} {news : List (Addr × Obj)} {gn : Obj → List (Addr × Obj)} {e t0 : Addr} {v : Value} {Q : Unit → Shared → Prop}
    (F : Fr h₀ L s.heap m) (X : (hd.heap_39 w.params).In h₀) (N : News h₀ L s.heap news) (U : UpdF e (exc0 none t0) news gn)
    (hs : findIn (hd.heap_39 w.params) (.ref 51) "__setattr__" = some (some (.builtin "object.__setattr__"))) (hm : findIn (hd.heap_39 w.params) (.ref 51) "message" = some none)
    (h : ∀ d h' tk, Fr h₀ L h' m → News h₀ L h' (gn (exc0 (some d) t0)) → Q () { s with heap := h', toks := tk }) :
    wpAny (model prog w) A (setAttr (.ref e) "message" v) Q E s := by
  obtain ⟨nm, q, N', bs, sn, sub, ab, col, dd, k0, k1, k2, k3, k5, hC⟩ := cls_fault (X.keeps F.keep)
  obtain ⟨hh, g, d, t, os⟩ := s
  obtain ⟨pre, post, rfl, hg, hpre, hpost⟩ := U.split
  have he : hh.get? e = some (exc0 none t0) := (N (e, exc0 none t0) (by simp)).1
  have XX := X.keeps F.keep
  have t1 : Looks (model prog w) hh (typeOf (.ref e)) (.ref 51) := (Looks.ld he).andThen .now
  have SF := PySem.F.store_object
  refine wpAny_bind (wpAny_mkText (wpAny_bind (wpAny_bind (wpAny_bind (t1 _ _ _ _ (fun _ _ e => e) (looks_findIn XX hs _ _ _ _ (fun _ _ e => e) (wpAny_holding ?_)))))))
  rw [SF.slot.bind]
  refine wpAny_bind (wpAny_pure (wpAny_bind (wpAny_call ?_)))
  have s1 : Looks (model prog w) hh (isInstance (.ref e) (.type "object")) true := t1.andThen (looks_mroIn XX (by k_is))
  refine codeAny_call_builtin SF.slot.plain SF.entry (@check_slot (model prog w) _ _ ⟨hh, g, d, t + 1, os⟩ "object.__setattr__" "object" "__setattr__" (.ref e) [.str "message" t, v] [] _ SF.kind SF.split s1 (SF.args (.ref e) (.str "message" t) v) ?_)
  show wpAny _ _ (Builtin.«object.__setattr__» ⟨[.ref e, .str "message" t, v], []⟩) _ _ _
  rw [osa_eq]
  have hm1 : Looks (model prog w) hh (typeLookup (.ref 51) "message") none := looks_findIn XX hm
  repeat (first | with_reducible refine wpAny_loadPart_at he ?_ | with_reducible refine wpAny_loadPart_at hC ?_ | wp_step)
  refine hm1.here ?_
  repeat (first | with_reducible refine wpAny_loadPart_at he ?_ | with_reducible refine wpAny_loadPart_at hC ?_ | wp_step)
  have hne : e ≠ hh.objs.size := Nat.ne_of_lt (Heap.lt_size he)
  have D : ((hh.push { cls := .type "dict", data := .dict #[] }).update e fun o => { o with dict := some hh.objs.size }).get? hh.objs.size = some { cls := .type "dict", data := .dict #[] } := by
    rw [Heap.get?_update_ne _ _ _ _ (Ne.symm hne)]
    exact Heap.get?_push_size _ rfl
  refine wpAny_askSetting ?_
  repeat (first | with_reducible refine wpAny_loadPart_at D ?_ | wp_step)
  have N1 := N.push F ({ cls := .type "dict", data := .dict #[] } : Obj)
  have F1 := F.push ({ cls := .type "dict", data := .dict #[] } : Obj)
  have hlt : ∀ p ∈ pre ++ (e, exc0 none t0) :: post, p.1 < hh.objs.size := fun p hp => Heap.lt_size (N p hp).1
  obtain ⟨F2, N2⟩ := news_upd (pre := (hh.objs.size, ({ cls := .type "dict", data := .dict #[] } : Obj)) :: pre) (o' := exc0 (some hh.objs.size) t0) (f := fun o => { o with dict := some hh.objs.size }) F1 N1
    (fun p hp => by
      rcases List.mem_cons.mp hp with rfl | hp
      · exact Ne.symm hne
      · exact hpre p hp) hpost rfl rfl
  obtain ⟨F3, N3⟩ := news_upd (pre := []) (o' := _) (f := Obj.putName (Str.ofString "message") (PyData.keyHash w.params (Str.ofString "message")) (Value.str (Str.ofString "message") (t + 1)) v) F2 N2 (fun p hp => nomatch hp)
    (fun p hp => by
      have : p ∈ pre ++ (e, exc0 (some hh.objs.size) t0) :: post := hp
      rcases List.mem_append.mp this with hp | hp
      · exact Nat.ne_of_lt (hlt p (List.mem_append_left _ hp))
      · rcases List.mem_cons.mp hp with rfl | hp
        · exact hne
        · exact Nat.ne_of_lt (hlt p (List.mem_append_right _ (.tail _ hp)))) rfl rfl
  exact h hh.objs.size _ _ F3 (by rw [hg]; exact fun p hp => N3 p (.tail _ hp))
end
theorem rows_c14 : True := by
  k_with_none
  (k_with "ite" => first | with_reducible refine ite_tt ?_ | with_reducible refine ite_ff ?_)
  (k_with "mem" => first | with_reducible assumption | ((fail_if_success (refine' List.Mem.tail _ ?_)); assumption))
  (k_with "room" => ((try simp only [depth_mark, depth_under_make, depth_under_kw, depth_in1, depth_deeper, depth_caller]); (try dsimp only [ktrTop]); (first | exact room0 (by with_reducible assumption) | exact room1 (by with_reducible assumption) (by decide) | exact room2 (by with_reducible assumption) (by decide) | exact room3 (by with_reducible assumption) (by decide) | omega)))
  (k_with "units" => ((try simp only [units_in1, units_deeper, Around.mark_units, units_caller]); (try dsimp only [ktrTop]); (first | exact room0 (by with_reducible assumption) | exact room1 (by with_reducible assumption) (by decide) | exact room2 (by with_reducible assumption) (by decide) | exact room3 (by with_reducible assumption) (by decide) | omega)))
  (k_with "ne" => (refine neN ?_; first | exact ne0 (by with_reducible assumption) | exact ne1 (by with_reducible assumption) | exact ne2 (by with_reducible assumption) | exact ne3 (by with_reducible assumption) | exact ne4 (by with_reducible assumption) | exact ne5 (by with_reducible assumption) | ((try dsimp only); omega)))
  (k_with "subscriptTail Name Constant ref int" => (k_here; k_dflt (refine item_listL (News.isList (by k_asm) (by k_mem)) (by decide) (by decide) (by exact rfl) ?_ (by with_unfolding_all rfl) (by intro _; with_unfolding_all rfl); k_whole)))
  (k_with "subscriptTail Name Name ref int" => (k_here; k_dflt (refine item_listL (News.isList (by k_asm) (by k_mem)) (by decide) (by decide) (by exact rfl) ?_ (by with_unfolding_all rfl) (by intro _; with_unfolding_all rfl); k_whole)))
  (k_with "call ref" => (k_here; (with_reducible show wpAny _ _ (call (Value.ref 347) [Value.ref _, Value.int _ _]) _ _ _); k_dflt (refine take_use (by k_asm) (by k_asm) (by k_asm) (by k_asm) (by k_asm) (by first | exact rfl | assumption) (by k_updF) (by assumption) (by first | decide | omega) (by first | decide | omega) (by ktr_room) (by ktr_units) ?_); intro r9 t9 o9 h9 tk9 hlo9 hhi9 hs9 F9 N9; (try dsimp only at N9 hhi9 ⊢); (try k_fold)))
  (k_with "ke_room" => ktr_units)
  (k_with "compareOp Eq ref ref" => (k_here; k_dflt (refine tup_eq0 (News.isTup (by k_asm) (by k_mem)) (News.isTup (by k_asm) (by k_mem)) (by ktr_units) (by exact Nat.succ_ne_zero _) ?_)))
  (k_with "compareOp Eq ref" => (k_here; (with_reducible show wpAny _ _ (compareOp CmpOp.Eq (Value.ref _) (Value.str _ _)) _ _ _); k_dflt (refine eq_var_str (by k_asm) (by k_asm) (by k_asm) (by k_mem) (by ktr_units) ?_)))
  (k_with "call ref" => (k_here; (with_reducible show wpAny _ _ (call (Value.ref 77) _) _ _ _); k_dflt (refine make_lit_use (by k_asm) (by k_asm) (by k_asm) (by k_asm) (by k_asm) (by first | exact rfl | assumption) (by ktr_room) (by ktr_units) ?_); intro x9 d9 t90 h9 tk9 l1 l2 F9 N9; (try k_lt l1); (try k_lt2 l2); (try k_sweep); (try dsimp only at N9 ⊢); (try k_fold)))
  (k_with "call ref" => (k_here; (with_reducible show wpAny _ _ (call (Value.ref 105) _) _ _ _); k_dflt (refine make_num_use (by k_asm) (by k_asm) (by k_asm) (by k_asm) (by k_asm) (by first | exact rfl | assumption) (by ktr_room) (by ktr_units) ?_); intro x9 d9 t90 h9 tk9 l1 l2 F9 N9; (try k_lt l1); (try k_lt2 l2); (try k_sweep); (try dsimp only at N9 ⊢); (try k_fold)))
  (k_with "call ref" => (k_here; (with_reducible show wpAny _ _ (call (Value.ref 133) _) _ _ _); k_dflt (refine make_var_use (by k_asm) (by k_asm) (by k_asm) (by k_asm) (by k_asm) (by first | exact rfl | assumption) (by ktr_room) (by ktr_units) ?_); intro x9 d9 t90 h9 tk9 l1 l2 F9 N9; (try k_lt l1); (try k_lt2 l2); (try k_sweep); (try dsimp only at N9 ⊢); (try k_fold)))
  (k_with "call ref" => (k_here; (with_reducible show wpAny _ _ (call (Value.ref 161) _) _ _ _); k_dflt (refine make_call_use (by k_asm) (by k_asm) (by k_asm) (by k_asm) (by k_asm) (by first | exact rfl | assumption) (by ktr_room) (by ktr_units) ?_); intro x9 d9 t90 t91 h9 tk9 l1 l2 F9 N9; (try k_lt l1); (try k_lt2 l2); (try k_sweep); (try dsimp only at N9 ⊢); (try k_fold)))
  (k_with "call ref" => (k_here; (with_reducible show wpAny _ _ (call (Value.ref 189) _) _ _ _); k_dflt (refine make_bin_use (by k_asm) (by k_asm) (by k_asm) (by k_asm) (by k_asm) (by first | exact rfl | assumption) (by ktr_room) (by ktr_units) ?_); intro x9 d9 t90 t91 t92 h9 tk9 l1 l2 F9 N9; (try k_lt l1); (try k_lt2 l2); (try k_sweep); (try dsimp only at N9 ⊢); (try k_fold)))
  (k_with "call ref" => (k_here; (with_reducible show wpAny _ _ (call (Value.ref 217) _) _ _ _); k_dflt (refine make_neg_use (by k_asm) (by k_asm) (by k_asm) (by k_asm) (by k_asm) (by first | exact rfl | assumption) (by ktr_room) (by ktr_units) ?_); intro x9 d9 t90 h9 tk9 l1 l2 F9 N9; (try k_lt l1); (try k_lt2 l2); (try k_sweep); (try dsimp only at N9 ⊢); (try k_fold)))
  (k_with "call ref" => (k_here; (with_reducible show wpAny _ _ (call (Value.ref 245) _) _ _ _); k_dflt (refine make_filter_use (by k_asm) (by k_asm) (by k_asm) (by k_asm) (by k_asm) (by first | exact rfl | assumption) (by ktr_room) (by ktr_units) ?_); intro x9 d9 t90 t91 h9 tk9 l1 l2 F9 N9; (try k_lt l1); (try k_lt2 l2); (try k_sweep); (try dsimp only at N9 ⊢); (try k_fold)))
  (k_with "call ref" => (k_here; (with_reducible show wpAny _ _ (call (Value.ref 273) _) _ _ _); k_dflt (refine make_path_use (by k_asm) (by k_asm) (by k_asm) (by k_asm) (by k_asm) (by first | exact rfl | assumption) (by ktr_room) (by ktr_units) ?_); intro x9 d9 t90 t91 h9 tk9 l1 l2 F9 N9; (try k_lt l1); (try k_lt2 l2); (try k_sweep); (try dsimp only at N9 ⊢); (try k_fold)))
  (k_with "call ref" => (k_here; (with_reducible show wpAny _ _ (call (Value.ref 301) _) _ _ _); k_dflt (refine make_step_use (by k_asm) (by k_asm) (by k_asm) (by k_asm) (by k_asm) (by first | exact rfl | assumption) (by ktr_room) (by ktr_units) ?_); intro x9 d9 t90 t91 t92 h9 tk9 l1 l2 F9 N9; (try k_lt l1); (try k_lt2 l2); (try k_sweep); (try dsimp only at N9 ⊢); (try k_fold)))
  trivial
section
theorem typeOf_Exception : typeOf (.type "Exception") = pure (.type "type") := by kernel_rfl
section
theorem rows_c14_6 : True := by
  (k_with "getMethod type:Exception" => (k_here; k_dflt (refine method_type (by k_asm) (by k_asm) (by exact typeOf_Exception) (by decide +kernel) (by k_is) (by k_handed) ?_)))
  (k_with "call builtin:Exception.__init__" => (k_here; k_dflt (refine init_K (by k_asm) (by k_asm) (by k_asm) (by k_updF) ?_); intro t' h' F' N' l1; (try k_lt l1); (try dsimp only at N'); (try k_sweep)))
  (k_with "setAttr ref" => (k_here; (with_reducible show wpAny _ _ (setAttr (Value.ref _) (PySem.Str.ofString "message") _) _ _ _); k_dflt (refine set_K (by k_asm) (by k_asm) (by k_asm) (by k_updF) (by k_is) (by k_is) ?_); intro d' h' tk' F' N'; (try dsimp only at N'); (try k_sweep)))
  trivial
set_option maxHeartbeats 1000000 in
theorem fault_make {prog : Program} {w : World} {p : Program} {loose : List Str} {mean : ExcName → Option Value} {mg mb : Str → Option Value} {news : List (Addr × Obj)} {msg : Str} {tk : Tok} :
    Spec prog w p loose mean mg mb 51 [.str msg tk] news 3 100 (fun v nn => ∃ e t d, v = .ref e ∧ nn = (t, tupOf [.str msg tk]) :: (e, exc0 (some d) t) :: news ∧ ∀ q ∈ news, q.1 ≠ e ∧ q.1 ≠ t) := by
  intro dp un gd cn cs a ccd cl outer A₀ base h₀ L m s Q E B F X N T hk hd hu hret
  refine' fault_K F X N ?i ?f ?_
  case i => k_is
  case f => k_is
  intro e t h' F' N' l1 l2
  refine wpAny_call ?_
  have hap : ∀ q ∈ news, q.1 ≠ e := fun q hq => Nat.ne_of_lt (Nat.lt_trans (l1 q hq) l2)
  replace l1 := allLt_of l1
  k_lt2 l2
  k_dflt cell_enter
  repeat' (first | (k_unfold; (try dsimp only)) | ((fail_if_success (with_reducible show Q _ _)); first | walk1 | (dsimp only; walk1) | (leave1; walk_say "STEP leave1"; (try dsimp only))))
  refine hret _ _ _ _ ⟨_, _, _, rfl, rfl, fun q hq => ⟨hap q hq, ?_⟩⟩ (by k_asm) (news_perm (by assumption) fun p hp => by
    rcases List.mem_cons.mp hp with rfl | hp
    · exact .head _
    · rcases List.mem_cons.mp hp with rfl | hp
      · exact .tail _ (.head _)
      · exact .tail _ (.tail _ (.tail _ hp)))
  rename _ ∧ _ => hl9
  exact Nat.ne_of_lt (all_lt_of hl9.2.2 q hq)
end
end
theorem rows_c15 : True := by
  k_with_none
  (k_with "ite" => first | with_reducible refine ite_tt ?_ | with_reducible refine ite_ff ?_)
  (k_with "mem" => first | with_reducible assumption | ((fail_if_success (refine' List.Mem.tail _ ?_)); assumption))
  (k_with "room" => ((try simp only [depth_mark, depth_under_make, depth_under_kw, depth_in1, depth_deeper, depth_caller]); (try dsimp only [ktrTop]); (first | exact room0 (by with_reducible assumption) | exact room1 (by with_reducible assumption) (by decide) | exact room2 (by with_reducible assumption) (by decide) | exact room3 (by with_reducible assumption) (by decide) | omega)))
  (k_with "units" => ((try simp only [units_in1, units_deeper, Around.mark_units, units_caller]); (try dsimp only [ktrTop]); (first | exact room0 (by with_reducible assumption) | exact room1 (by with_reducible assumption) (by decide) | exact room2 (by with_reducible assumption) (by decide) | exact room3 (by with_reducible assumption) (by decide) | omega)))
  (k_with "ne" => (refine neN ?_; first | exact ne0 (by with_reducible assumption) | exact ne1 (by with_reducible assumption) | exact ne2 (by with_reducible assumption) | exact ne3 (by with_reducible assumption) | exact ne4 (by with_reducible assumption) | exact ne5 (by with_reducible assumption) | ((try dsimp only); omega)))
  (k_with "subscriptTail Name Constant ref int" => (k_here; k_dflt (refine item_listL (News.isList (by k_asm) (by k_mem)) (by decide) (by decide) (by exact rfl) ?_ (by with_unfolding_all rfl) (by intro _; with_unfolding_all rfl); k_whole)))
  (k_with "subscriptTail Name Name ref int" => (k_here; k_dflt (refine item_listL (News.isList (by k_asm) (by k_mem)) (by decide) (by decide) (by exact rfl) ?_ (by with_unfolding_all rfl) (by intro _; with_unfolding_all rfl); k_whole)))
  (k_with "call ref" => (k_here; (with_reducible show wpAny _ _ (call (Value.ref 347) [Value.ref _, Value.int _ _]) _ _ _); k_dflt (refine take_use (by k_asm) (by k_asm) (by k_asm) (by k_asm) (by k_asm) (by first | exact rfl | assumption) (by k_updF) (by assumption) (by first | decide | omega) (by first | decide | omega) (by ktr_room) (by ktr_units) ?_); intro r9 t9 o9 h9 tk9 hlo9 hhi9 hs9 F9 N9; (try dsimp only at N9 hhi9 ⊢); (try k_fold)))
  (k_with "ke_room" => ktr_units)
  (k_with "compareOp Eq ref ref" => (k_here; k_dflt (refine tup_eq0 (News.isTup (by k_asm) (by k_mem)) (News.isTup (by k_asm) (by k_mem)) (by ktr_units) (by exact Nat.succ_ne_zero _) ?_)))
  (k_with "compareOp Eq ref" => (k_here; (with_reducible show wpAny _ _ (compareOp CmpOp.Eq (Value.ref _) (Value.str _ _)) _ _ _); k_dflt (refine eq_var_str (by k_asm) (by k_asm) (by k_asm) (by k_mem) (by ktr_units) ?_)))
  (k_with "call ref" => (k_here; (with_reducible show wpAny _ _ (call (Value.ref 77) _) _ _ _); k_dflt (refine make_lit_use (by k_asm) (by k_asm) (by k_asm) (by k_asm) (by k_asm) (by first | exact rfl | assumption) (by ktr_room) (by ktr_units) ?_); intro x9 d9 t90 h9 tk9 l1 l2 F9 N9; (try k_lt l1); (try k_lt2 l2); (try k_sweep); (try dsimp only at N9 ⊢); (try k_fold)))
  (k_with "call ref" => (k_here; (with_reducible show wpAny _ _ (call (Value.ref 105) _) _ _ _); k_dflt (refine make_num_use (by k_asm) (by k_asm) (by k_asm) (by k_asm) (by k_asm) (by first | exact rfl | assumption) (by ktr_room) (by ktr_units) ?_); intro x9 d9 t90 h9 tk9 l1 l2 F9 N9; (try k_lt l1); (try k_lt2 l2); (try k_sweep); (try dsimp only at N9 ⊢); (try k_fold)))
  (k_with "call ref" => (k_here; (with_reducible show wpAny _ _ (call (Value.ref 133) _) _ _ _); k_dflt (refine make_var_use (by k_asm) (by k_asm) (by k_asm) (by k_asm) (by k_asm) (by first | exact rfl | assumption) (by ktr_room) (by ktr_units) ?_); intro x9 d9 t90 h9 tk9 l1 l2 F9 N9; (try k_lt l1); (try k_lt2 l2); (try k_sweep); (try dsimp only at N9 ⊢); (try k_fold)))
  (k_with "call ref" => (k_here; (with_reducible show wpAny _ _ (call (Value.ref 161) _) _ _ _); k_dflt (refine make_call_use (by k_asm) (by k_asm) (by k_asm) (by k_asm) (by k_asm) (by first | exact rfl | assumption) (by ktr_room) (by ktr_units) ?_); intro x9 d9 t90 t91 h9 tk9 l1 l2 F9 N9; (try k_lt l1); (try k_lt2 l2); (try k_sweep); (try dsimp only at N9 ⊢); (try k_fold)))
  (k_with "call ref" => (k_here; (with_reducible show wpAny _ _ (call (Value.ref 189) _) _ _ _); k_dflt (refine make_bin_use (by k_asm) (by k_asm) (by k_asm) (by k_asm) (by k_asm) (by first | exact rfl | assumption) (by ktr_room) (by ktr_units) ?_); intro x9 d9 t90 t91 t92 h9 tk9 l1 l2 F9 N9; (try k_lt l1); (try k_lt2 l2); (try k_sweep); (try dsimp only at N9 ⊢); (try k_fold)))
  (k_with "call ref" => (k_here; (with_reducible show wpAny _ _ (call (Value.ref 217) _) _ _ _); k_dflt (refine make_neg_use (by k_asm) (by k_asm) (by k_asm) (by k_asm) (by k_asm) (by first | exact rfl | assumption) (by ktr_room) (by ktr_units) ?_); intro x9 d9 t90 h9 tk9 l1 l2 F9 N9; (try k_lt l1); (try k_lt2 l2); (try k_sweep); (try dsimp only at N9 ⊢); (try k_fold)))
  (k_with "call ref" => (k_here; (with_reducible show wpAny _ _ (call (Value.ref 245) _) _ _ _); k_dflt (refine make_filter_use (by k_asm) (by k_asm) (by k_asm) (by k_asm) (by k_asm) (by first | exact rfl | assumption) (by ktr_room) (by ktr_units) ?_); intro x9 d9 t90 t91 h9 tk9 l1 l2 F9 N9; (try k_lt l1); (try k_lt2 l2); (try k_sweep); (try dsimp only at N9 ⊢); (try k_fold)))
  (k_with "call ref" => (k_here; (with_reducible show wpAny _ _ (call (Value.ref 273) _) _ _ _); k_dflt (refine make_path_use (by k_asm) (by k_asm) (by k_asm) (by k_asm) (by k_asm) (by first | exact rfl | assumption) (by ktr_room) (by ktr_units) ?_); intro x9 d9 t90 t91 h9 tk9 l1 l2 F9 N9; (try k_lt l1); (try k_lt2 l2); (try k_sweep); (try dsimp only at N9 ⊢); (try k_fold)))
  (k_with "call ref" => (k_here; (with_reducible show wpAny _ _ (call (Value.ref 301) _) _ _ _); k_dflt (refine make_step_use (by k_asm) (by k_asm) (by k_asm) (by k_asm) (by k_asm) (by first | exact rfl | assumption) (by ktr_room) (by ktr_units) ?_); intro x9 d9 t90 t91 t92 h9 tk9 l1 l2 F9 N9; (try k_lt l1); (try k_lt2 l2); (try k_sweep); (try dsimp only at N9 ⊢); (try k_fold)))
  (k_with "exec Raise some none" => (k_here; (with_reducible show wpAny _ _ (exec (Stmt.Raise (some (PySem.Expr.Call (PySem.Expr.Name (PySem.Str.ofString "PathFault") _) _ _ _)) none _) _) _ _ _); k_dflt (refine raise_fault rfl ?_)))
  (k_with "call ref" => (k_here; (with_reducible show wpAny _ _ (call (Value.ref 51) _) _ _ _); k_dflt (refine Spec.use2 (by k_asm) (by k_asm) (by k_asm) (by k_asm) (by k_asm) (by first | exact rfl | assumption) fault_make (by ktr_room) (by ktr_units) ?_); intro v9 n9 h9 tk9 hp9 F9 N9; obtain ⟨e9, t9, d9, e8, e7, hn9⟩ := hp9; subst e8; subst e7; refine ⟨_, _, _, rfl, Frag.In.keeps (by k_asm) (Fr.keep F9), News.get N9 (.tail _ (.head _)), ?_⟩))
  (k_with "leaving ref" => (k_here; k_dflt (refine leave_fault (by assumption) (by k_asm) (by with_reducible assumption) (by assumption) ?_); intro h' S' R' U'; (try dsimp only at S' R' U' ⊢)))
  (k_with "noteFrame ref" => (k_here; (rename RaisedK _ _ _ _ _ _ _ _ => rkX); k_dflt (refine caught_fault (by assumption) (by assumption) (by assumption) (by exact rkX) (by k_asm) (by k_asm) (by k_is) ?_); intro h' F' N'; (try k_sweep)))
  trivial
section
def FaultR (w : World) (E : Value → Shared → Prop) (v : Value) (s₁ : Shared) : Prop :=
  ∃ e t d, v = .ref e ∧ (hd.heap_39 w.params).In s₁.heap ∧ s₁.heap.get? e = some (exc0 (some d) t) ∧ E (.ref e) s₁
set_option maxHeartbeats 1000000 in
theorem raise_fault {prog : Program} {w : World} {A : Around} {E : Value → Shared → Prop} {s : Shared} {env : Env} {ce : PySem.Expr} {pos : Pos} {Q : Flow → Shared → Prop} (hh : A.handled = none)
    (h : wpAny (model prog w) A (eval ce env) (FaultR w E) E s) : wpAny (model prog w) A (exec (.Raise (some ce) none pos) env) Q E s := by
  show wpAny (model prog w) A (do standAt pos; raiseStmt env (some (do let v ← eval ce env; standAt pos; pure v)) none) Q E s
  refine wpAny_bind (wpAny_standAt ?_)
  unfold raiseStmt
  dsimp only
  refine wpAny_bind (wpAny_bind (wpAny_mono h (fun v s₁ h₁ => wpAny_bind (wpAny_standAt (wpAny_pure ?_))) fun _ _ x => x))
  obtain ⟨e, t, d, rfl, X, he, hE⟩ := h₁
  obtain ⟨nm, q, N', bs, sn, sub, ab, col, dd, k0, k1, k2, k3, k5, hC⟩ := cls_fault X
  have hcB : (Value.ref 51 :: faultTail).contains (.type "BaseException") = true := by decide +kernel
  obtain ⟨hp, g, dr, tk, os⟩ := s₁
  repeat (first | with_reducible refine wpAny_loadPart_at he ?_ | with_reducible refine wpAny_loadPart_at hC ?_ | (with_reducible refine wpAny_isSubtype_exc hC ?_; rw [hcB]) | wp_step)
  exact wpAny_raiseNew_none hh hE
theorem leave_fault {M : Model} {A : Around} {E : Value → Shared → Prop} {s' : Shared} {base g : Heap} {outer : List Env} {L a e t d : Addr} {m : Str → Option Value} {name : Str} {scope : Scope} {cd : Value} {Q : Unit → Shared → Prop} {news : List (Addr × Obj)} {vs : List Value}
    (K : Below A base outer g) (F : Fr g L s'.heap m) (N : News g L s'.heap ((t, tupOf vs) :: (e, exc0 (some d) t) :: news)) (hn : ∀ q ∈ news, q.1 ≠ e ∧ q.1 ≠ t)
    (hQ : ∀ h', RaisedS base g outer e (.ref 51) t vs news h' → RaisedK base outer e (.ref 51) t vs news h' → g.UpToSlots h' → Q () { s' with heap := h' }) (hk : scope.kind = .function := by rfl) :
    wpAny M (A.deeper (envOf name scope L a cd)) (leaving (envOf name scope L a cd) (.ref e)) Q E s' := by
  have K' := K.push (name := name) (a := a) (cd := cd) F hk
  have ht := N (t, tupOf vs) (.head _)
  have he := N (e, exc0 (some d) t) (.tail _ (.head _))
  have hin : ∀ env ∈ (envOf name scope L a cd :: outer), ∀ b, env.frame = some b → b ∈ e :: t :: (envOf name scope L a cd :: outer).filterMap (·.frame) := fun env he b hb => .tail _ (.tail _ (List.mem_filterMap.mpr ⟨env, he, hb⟩))
  have st : base.StaysIn (hideAll s'.heap (e :: t :: (envOf name scope L a cd :: outer).filterMap (·.frame))) := fun b o q => hideAll_get _ (K'.stays b o q) fun hm => by
    have gb := K.stays b o q
    rcases List.mem_cons.mp hm with rfl | hm
    · rw [he.2.2] at gb; cases gb
    · rcases List.mem_cons.mp hm with rfl | hm
      · rw [ht.2.2] at gb; cases gb
      · rw [(K'.frames.mem hm).1] at q; cases q
  have hl : ∀ q ∈ news, (hideAll s'.heap (e :: t :: (envOf name scope L a cd :: outer).filterMap (·.frame))).get? q.1 = some q.2 ∧ base.get? q.1 = none := fun q hq => by
    have Nq := N q (.tail _ (.tail _ hq))
    refine ⟨hideAll_get _ Nq.1 fun hm => ?_, fresh_of_stays K.stays Nq.2.2⟩
    rcases List.mem_cons.mp hm with z | hm
    · exact (hn q hq).1 z
    · rcases List.mem_cons.mp hm with z | hm
      · exact (hn q hq).2 z
      · obtain ⟨env, he, hf⟩ := List.mem_filterMap.mp hm
        rcases List.mem_cons.mp he with rfl | he
        · exact Nq.2.1 (Option.some.inj hf).symm
        · obtain ⟨o, ho, _⟩ := (K.frames.mem (List.mem_filterMap.mpr ⟨env, he, hf⟩)).2
          rw [Nq.2.2] at ho; cases ho
  refine wpAny_leaving_firstW (base := hideAll s'.heap (e :: t :: (envOf name scope L a cd :: outer).filterMap (·.frame))) (a0 := .ref t) K'.stack (funFrames_hide K'.frames hin) rfl he.1 (fun b o q => of_hideAll _ q) (hideAll_none _ (.head _)) rfl rfl rfl fun h' hL => ?_
  obtain ⟨k1, ⟨_, _, k2⟩, k3, k4⟩ := hL
  have sg : ∀ b o, g.get? b = some o → b ∉ outer.filterMap (·.frame) → (hideAll s'.heap (e :: t :: (envOf name scope L a cd :: outer).filterMap (·.frame))).get? b = some o := fun b o q nm => hideAll_get _ (F.keep b o q) fun hm => by
    rcases List.mem_cons.mp hm with rfl | hm
    · rw [he.2.2] at q; cases q
    · rcases List.mem_cons.mp hm with rfl | hm
      · rw [ht.2.2] at q; cases q
      · rcases kts_mem hm with z | z
        · rw [z, kts_self F] at q; cases q
        · exact nm z
  have R : RaisedS base g outer e (.ref 51) t vs news h' := ⟨⟨_, st, sg, fun q hq => ⟨(hl q hq).1, (N q (.tail _ (.tail _ hq))).2.2, (hl q hq).2⟩, ⟨k1, hideAll_none _ (.head _), k2, k3⟩, hideAll_none _ (.tail _ (.head _))⟩, Heap.TupAt.of_slots ⟨_, _, ht.1, rfl, rfl⟩ k4⟩
  exact hQ h' R R.toK ((Heap.UpToSlots.of_keeps F.keep).trans k4)
theorem caught_fault {prog : Program} {w : World} {A₀ : Around} {E : Value → Shared → Prop} {s' : Shared} {h₀ h : Heap} {outer : List Env} {L a e t : Addr} {m : Str → Option Value} {name : Str} {scope : Scope} {cd : Value}
    {vs : List Value} {b₀ : Stmt} {suite : List Stmt} {pos np : Pos} {rest : List ExceptHandler} {Q : Flow → Shared → Prop} {news : List (Addr × Obj)} {p : Program} {loose : List Str} {mg mb : Str → Option Value} {x : Str}
    (K : Below A₀ h₀ outer h₀) (F : Fr h₀ L h m) (hsm : h.UpToSlots s'.heap) (R : RaisedK h₀ (envOf name scope L a cd :: outer) e (.ref 51) t vs news s'.heap)
    (X : (hd.heap_39 w.params).In h₀) (T : TopRead p loose mg mb h₀) (ex : nsIn (hd.heap_39 w.params) mainGlobals x = some (some (.ref 51)))
    (k : ∀ h', Fr h₀ L h' m → News h₀ L h' news →
      wpAny (model prog w) ((A₀.deeper (envOf name scope L a cd)).mark (some (.ref e))) (execs (b₀ :: suite) (envOf name scope L a cd)) Q E { s' with heap := h' })
    (hk : scope.kind = .function := by rfl) (hx : (envOf name scope L a cd).kindOf x = some .globalImplicit := by rfl) (hd' : (x == ("__debug__" : Str)) = false := by decide)
    (hE : PassesOwnAt (model prog w) ((A₀.deeper (envOf name scope L a cd)).mark (some (.ref e))) (A₀.deeper (envOf name scope L a cd)) (envOf name scope L a cd) E := by passes_own) :
    wpAny (model prog w) (A₀.deeper (envOf name scope L a cd)) (noteFrame (.ref e) (envOf name scope L a cd))
      (fun _ s₂ => wpAny (model prog w) (A₀.deeper (envOf name scope L a cd)) (setFlight (.ref e) none) (fun _ s₃ =>
        wpAny (model prog w) (A₀.deeper (envOf name scope L a cd)) (handleBy (.ref e) (envOf name scope L a cd) (.ExceptHandler (some (.Name x np)) none (b₀ :: suite) pos :: rest)) Q E s₃) E s₂) E s' := by
  obtain ⟨⟨B, hB, hl, hfl, hnew⟩, htup⟩ := R
  have hL : B.get? L = none := by
    obtain ⟨_, ⟨L', _, hf, hn', _⟩, _⟩ := hfl.2.2.1
    obtain rfl : L = L' := Option.some.inj hf
    exact hn'
  refine wpAny_looks_onW (Around.frames_deeper K.stack) rfl hfl fun h₄ hheld₄ hsm₄ => ?_
  refine wpAny_landsW hheld₄ fun h₅ hheld hsm₅' => ?_
  have hsm₅ := hsm₄.trans hsm₅'
  have hheld' := flyingW_base hB hheld
  have F₅ := F.of_stays hheld'.1 (hsm.trans hsm₅)
  obtain ⟨ob, hob, hobc⟩ := hheld'.there
  refine wpAny_handleBy_cons (codeAny_handlers_test (name_K F₅ X T ex ?_ hk hx hd')) (by intro q; cases q)
  obtain ⟨nm, q, N', bs, sn, sub, ab, col, dd, k0, k1, k2, k3, k5, hC⟩ := cls_fault (X.keeps F₅.keep)
  refine wpAny_excMatches_sub_self hC hob hobc (by decide +kernel) (codeAny_handlers_suite ?_)
  refine lands_againW hheld fun h₆ hfl₆ hsm₆ => ?_
  have hfl₆' := flyingW_base hB hfl₆
  have F₆ := F.of_stays hfl₆'.1 ((hsm.trans hsm₅).trans hsm₆)
  exact wpAny_passesOwnAt hE (k h₆ F₆ fun q hq => ⟨hfl₆.1 _ _ (hl q hq).1, (fun z => by have := (hl q hq).1; rw [z, hL] at this; cases this), (hl q hq).2⟩)
end
theorem rows_c16 : True := by
  k_with_none
  (k_with "ite" => first | with_reducible refine ite_tt ?_ | with_reducible refine ite_ff ?_)
  (k_with "mem" => first | with_reducible assumption | ((fail_if_success (refine' List.Mem.tail _ ?_)); assumption))
  (k_with "room" => ((try simp only [depth_mark, depth_under_make, depth_under_kw, depth_in1, depth_deeper, depth_caller]); (try dsimp only [ktrTop]); (first | exact room0 (by with_reducible assumption) | exact room1 (by with_reducible assumption) (by decide) | exact room2 (by with_reducible assumption) (by decide) | exact room3 (by with_reducible assumption) (by decide) | omega)))
  (k_with "units" => ((try simp only [units_in1, units_deeper, Around.mark_units, units_caller]); (try dsimp only [ktrTop]); (first | exact room0 (by with_reducible assumption) | exact room1 (by with_reducible assumption) (by decide) | exact room2 (by with_reducible assumption) (by decide) | exact room3 (by with_reducible assumption) (by decide) | omega)))
  (k_with "ne" => (refine neN ?_; first | exact ne0 (by with_reducible assumption) | exact ne1 (by with_reducible assumption) | exact ne2 (by with_reducible assumption) | exact ne3 (by with_reducible assumption) | exact ne4 (by with_reducible assumption) | exact ne5 (by with_reducible assumption) | ((try dsimp only); omega)))
  (k_with "subscriptTail Name Constant ref int" => (k_here; k_dflt (refine item_listL (News.isList (by k_asm) (by k_mem)) (by decide) (by decide) (by exact rfl) ?_ (by with_unfolding_all rfl) (by intro _; with_unfolding_all rfl); k_whole)))
  (k_with "subscriptTail Name Name ref int" => (k_here; k_dflt (refine item_listL (News.isList (by k_asm) (by k_mem)) (by decide) (by decide) (by exact rfl) ?_ (by with_unfolding_all rfl) (by intro _; with_unfolding_all rfl); k_whole)))
  (k_with "call ref" => (k_here; (with_reducible show wpAny _ _ (call (Value.ref 347) [Value.ref _, Value.int _ _]) _ _ _); k_dflt (refine take_use (by k_asm) (by k_asm) (by k_asm) (by k_asm) (by k_asm) (by first | exact rfl | assumption) (by k_updF) (by assumption) (by first | decide | omega) (by first | decide | omega) (by ktr_room) (by ktr_units) ?_); intro r9 t9 o9 h9 tk9 hlo9 hhi9 hs9 F9 N9; (try dsimp only at N9 hhi9 ⊢); (try k_fold)))
  (k_with "ke_room" => ktr_units)
  (k_with "compareOp Eq ref ref" => (k_here; k_dflt (refine tup_eq0 (News.isTup (by k_asm) (by k_mem)) (News.isTup (by k_asm) (by k_mem)) (by ktr_units) (by exact Nat.succ_ne_zero _) ?_)))
  (k_with "compareOp Eq ref" => (k_here; (with_reducible show wpAny _ _ (compareOp CmpOp.Eq (Value.ref _) (Value.str _ _)) _ _ _); k_dflt (refine eq_var_str (by k_asm) (by k_asm) (by k_asm) (by k_mem) (by ktr_units) ?_)))
  (k_with "call ref" => (k_here; (with_reducible show wpAny _ _ (call (Value.ref 77) _) _ _ _); k_dflt (refine make_lit_use (by k_asm) (by k_asm) (by k_asm) (by k_asm) (by k_asm) (by first | exact rfl | assumption) (by ktr_room) (by ktr_units) ?_); intro x9 d9 t90 h9 tk9 l1 l2 F9 N9; (try k_lt l1); (try k_lt2 l2); (try k_sweep); (try dsimp only at N9 ⊢); (try k_fold)))
  (k_with "call ref" => (k_here; (with_reducible show wpAny _ _ (call (Value.ref 105) _) _ _ _); k_dflt (refine make_num_use (by k_asm) (by k_asm) (by k_asm) (by k_asm) (by k_asm) (by first | exact rfl | assumption) (by ktr_room) (by ktr_units) ?_); intro x9 d9 t90 h9 tk9 l1 l2 F9 N9; (try k_lt l1); (try k_lt2 l2); (try k_sweep); (try dsimp only at N9 ⊢); (try k_fold)))
  (k_with "call ref" => (k_here; (with_reducible show wpAny _ _ (call (Value.ref 133) _) _ _ _); k_dflt (refine make_var_use (by k_asm) (by k_asm) (by k_asm) (by k_asm) (by k_asm) (by first | exact rfl | assumption) (by ktr_room) (by ktr_units) ?_); intro x9 d9 t90 h9 tk9 l1 l2 F9 N9; (try k_lt l1); (try k_lt2 l2); (try k_sweep); (try dsimp only at N9 ⊢); (try k_fold)))
  (k_with "call ref" => (k_here; (with_reducible show wpAny _ _ (call (Value.ref 161) _) _ _ _); k_dflt (refine make_call_use (by k_asm) (by k_asm) (by k_asm) (by k_asm) (by k_asm) (by first | exact rfl | assumption) (by ktr_room) (by ktr_units) ?_); intro x9 d9 t90 t91 h9 tk9 l1 l2 F9 N9; (try k_lt l1); (try k_lt2 l2); (try k_sweep); (try dsimp only at N9 ⊢); (try k_fold)))
  (k_with "call ref" => (k_here; (with_reducible show wpAny _ _ (call (Value.ref 189) _) _ _ _); k_dflt (refine make_bin_use (by k_asm) (by k_asm) (by k_asm) (by k_asm) (by k_asm) (by first | exact rfl | assumption) (by ktr_room) (by ktr_units) ?_); intro x9 d9 t90 t91 t92 h9 tk9 l1 l2 F9 N9; (try k_lt l1); (try k_lt2 l2); (try k_sweep); (try dsimp only at N9 ⊢); (try k_fold)))
  (k_with "call ref" => (k_here; (with_reducible show wpAny _ _ (call (Value.ref 217) _) _ _ _); k_dflt (refine make_neg_use (by k_asm) (by k_asm) (by k_asm) (by k_asm) (by k_asm) (by first | exact rfl | assumption) (by ktr_room) (by ktr_units) ?_); intro x9 d9 t90 h9 tk9 l1 l2 F9 N9; (try k_lt l1); (try k_lt2 l2); (try k_sweep); (try dsimp only at N9 ⊢); (try k_fold)))
  (k_with "call ref" => (k_here; (with_reducible show wpAny _ _ (call (Value.ref 245) _) _ _ _); k_dflt (refine make_filter_use (by k_asm) (by k_asm) (by k_asm) (by k_asm) (by k_asm) (by first | exact rfl | assumption) (by ktr_room) (by ktr_units) ?_); intro x9 d9 t90 t91 h9 tk9 l1 l2 F9 N9; (try k_lt l1); (try k_lt2 l2); (try k_sweep); (try dsimp only at N9 ⊢); (try k_fold)))
  (k_with "call ref" => (k_here; (with_reducible show wpAny _ _ (call (Value.ref 273) _) _ _ _); k_dflt (refine make_path_use (by k_asm) (by k_asm) (by k_asm) (by k_asm) (by k_asm) (by first | exact rfl | assumption) (by ktr_room) (by ktr_units) ?_); intro x9 d9 t90 t91 h9 tk9 l1 l2 F9 N9; (try k_lt l1); (try k_lt2 l2); (try k_sweep); (try dsimp only at N9 ⊢); (try k_fold)))
  (k_with "call ref" => (k_here; (with_reducible show wpAny _ _ (call (Value.ref 301) _) _ _ _); k_dflt (refine make_step_use (by k_asm) (by k_asm) (by k_asm) (by k_asm) (by k_asm) (by first | exact rfl | assumption) (by ktr_room) (by ktr_units) ?_); intro x9 d9 t90 t91 t92 h9 tk9 l1 l2 F9 N9; (try k_lt l1); (try k_lt2 l2); (try k_sweep); (try dsimp only at N9 ⊢); (try k_fold)))
  (k_with "exec Raise some none" => (k_here; (with_reducible show wpAny _ _ (exec (Stmt.Raise (some (PySem.Expr.Call (PySem.Expr.Name (PySem.Str.ofString "PathFault") _) _ _ _)) none _) _) _ _ _); k_dflt (refine raise_fault rfl ?_)))
  (k_with "call ref" => (k_here; (with_reducible show wpAny _ _ (call (Value.ref 51) _) _ _ _); k_dflt (refine Spec.use2 (by k_asm) (by k_asm) (by k_asm) (by k_asm) (by k_asm) (by first | exact rfl | assumption) fault_make (by ktr_room) (by ktr_units) ?_); intro v9 n9 h9 tk9 hp9 F9 N9; obtain ⟨e9, t9, d9, e8, e7, hn9⟩ := hp9; subst e8; subst e7; refine ⟨_, _, _, rfl, Frag.In.keeps (by k_asm) (Fr.keep F9), News.get N9 (.tail _ (.head _)), ?_⟩))
  (k_with "leaving ref" => (k_here; k_dflt (refine leave_fault (by assumption) (by k_asm) (by with_reducible assumption) (by assumption) ?_); intro h' S' R' U'; (try dsimp only at S' R' U' ⊢)))
  (k_with "noteFrame ref" => (k_here; (rename RaisedK _ _ _ _ _ _ _ _ => rkX); k_dflt (refine caught_fault (by assumption) (by assumption) (by assumption) (by exact rkX) (by k_asm) (by k_asm) (by k_is) ?_); intro h' F' N'; (try k_sweep)))
  (k_with "kts_go" => (first
  | (apply code_defS0; (case hA => exact rfl); (case F => k_asm); (case B => k_asm); (case X₀ => k_asm); (case N => k_asm); (case T => k_asm); (case ho => k_is); (case hcd => k_is); (case hroom => ktr_room); (case hbind => exact BindsTo.of_eq rfl); (case hloc => exact locs rfl); (case hck => assumption); (case hco => exact rfl); (case hgen => exact rfl); (case hk => exact rfl); (case hcell => decide); k_whole; intro g' L' h' FG' F' N' B' X' T' D'; (try dsimp only); (try k_lift B'); (try k_fold))
  | (apply code_defS; (case hA => exact rfl); (case F => k_asm); (case B => k_asm); (case XB => assumption); (case TB => assumption); (case D => assumption); (case T0 => first | assumption | exact KtsTurn.refl); (case X₀ => k_asm); (case N => k_asm); (case T => k_asm); (case ho => k_is); (case hcd => k_is); (case hroom => ktr_room); (case hbind => exact BindsTo.of_eq rfl); (case hloc => exact locs rfl); (case hck => first | assumption | exact rfl); (case hco => exact rfl); (case hgen => exact rfl); (case hk => exact rfl); (case hcell => decide); k_whole; intro g' L' h' FG' F' N' B' X' T' D'; (try dsimp only); (try k_lift B'); (try k_fold))))
  trivial
section
/-- the contract of a def called from the law's own frame: it may catch -/
def SpecT (prog : Program) (w : World) (p : Program) (loose : List Str) (mean : ExcName → Option Value) (mg mb : Str → Option Value) (f : Addr) (vs : List Value) (news : List (Addr × Obj)) (dn un₀ : Nat) (Post : Value → List (Addr × Obj) → Prop) : Prop :=
  ∀ (dp un : Nat) (gd : Option (List Code)) (cn : Str) (cs : Scope) (a : Addr) (ccd : Value) (A₀ : Around) (base h₀ : Heap) (L : Addr) (m : Str → Option Value) (s : Shared) (Q E : Value → Shared → Prop),
    Below A₀ base [] h₀ → Fr h₀ L s.heap m → (hd.heap_39 w.params).In h₀ → News h₀ L s.heap news → Top p loose mean mg mb h₀ → (hd.heap_39 w.params).In base → Top p loose mean mg mb base → cs.kind = .function →
    dp + dn < recursionLimit → un + un₀ < cLine →
    (∀ (v : Value) (news' : List (Addr × Obj)) (h' : Heap) (tk' : Nat), Post v news' → Fr h₀ L h' m → News h₀ L h' news' → Q v { s with heap := h', toks := tk' }) →
      wpAny (model prog w) (ktrTop dp un gd cn cs L a ccd [] []) (call (.ref f) vs) Q E s
theorem Spec.toT {prog : Program} {w : World} {p : Program} {loose : List Str} {mean : ExcName → Option Value} {mg mb : Str → Option Value} {f : Addr} {vs : List Value} {news : List (Addr × Obj)} {dn un₀ : Nat} {Post : Value → List (Addr × Obj) → Prop}
    (S : Spec prog w p loose mean mg mb f vs news dn un₀ Post) : SpecT prog w p loose mean mg mb f vs news dn un₀ Post := fun _ _ _ _ _ _ _ _ _ _ _ _ _ _ _ B F X N T _ _ hk hd hu ret => S _ _ _ _ _ _ _ _ _ _ _ _ _ _ _ _ _ B F X N T hk hd hu ret
structure TestIs (prog : Program) (w : World) (p : Program) (loose : List Str) (mean : ExcName → Option Value) (mg mb : Str → Option Value) (nn : List (Addr × Obj)) (r : Addr) (due : Str) : Prop where
  out : SpecT prog w p loose mean mg mb 394 [.ref r] nn 12 400 (fun v n2 => (∃ t, v = .str due t) ∧ ∀ q ∈ nn, q ∈ n2)
end
theorem rows_c17 : True := by
  k_with_none
  (k_with "ite" => first | with_reducible refine ite_tt ?_ | with_reducible refine ite_ff ?_)
  (k_with "mem" => first | with_reducible assumption | ((fail_if_success (refine' List.Mem.tail _ ?_)); assumption))
  (k_with "room" => ((try simp only [depth_mark, depth_under_make, depth_under_kw, depth_in1, depth_deeper, depth_caller]); (try dsimp only [ktrTop]); (first | exact room0 (by with_reducible assumption) | exact room1 (by with_reducible assumption) (by decide) | exact room2 (by with_reducible assumption) (by decide) | exact room3 (by with_reducible assumption) (by decide) | omega)))
  (k_with "units" => ((try simp only [units_in1, units_deeper, Around.mark_units, units_caller]); (try dsimp only [ktrTop]); (first | exact room0 (by with_reducible assumption) | exact room1 (by with_reducible assumption) (by decide) | exact room2 (by with_reducible assumption) (by decide) | exact room3 (by with_reducible assumption) (by decide) | omega)))
  (k_with "ne" => (refine neN ?_; first | exact ne0 (by with_reducible assumption) | exact ne1 (by with_reducible assumption) | exact ne2 (by with_reducible assumption) | exact ne3 (by with_reducible assumption) | exact ne4 (by with_reducible assumption) | exact ne5 (by with_reducible assumption) | ((try dsimp only); omega)))
  (k_with "subscriptTail Name Constant ref int" => (k_here; k_dflt (refine item_listL (News.isList (by k_asm) (by k_mem)) (by decide) (by decide) (by exact rfl) ?_ (by with_unfolding_all rfl) (by intro _; with_unfolding_all rfl); k_whole)))
  (k_with "subscriptTail Name Name ref int" => (k_here; k_dflt (refine item_listL (News.isList (by k_asm) (by k_mem)) (by decide) (by decide) (by exact rfl) ?_ (by with_unfolding_all rfl) (by intro _; with_unfolding_all rfl); k_whole)))
  (k_with "call ref" => (k_here; (with_reducible show wpAny _ _ (call (Value.ref 347) [Value.ref _, Value.int _ _]) _ _ _); k_dflt (refine take_use (by k_asm) (by k_asm) (by k_asm) (by k_asm) (by k_asm) (by first | exact rfl | assumption) (by k_updF) (by assumption) (by first | decide | omega) (by first | decide | omega) (by ktr_room) (by ktr_units) ?_); intro r9 t9 o9 h9 tk9 hlo9 hhi9 hs9 F9 N9; (try dsimp only at N9 hhi9 ⊢); (try k_fold)))
  (k_with "ke_room" => ktr_units)
  (k_with "compareOp Eq ref ref" => (k_here; k_dflt (refine tup_eq0 (News.isTup (by k_asm) (by k_mem)) (News.isTup (by k_asm) (by k_mem)) (by ktr_units) (by exact Nat.succ_ne_zero _) ?_)))
  (k_with "compareOp Eq ref" => (k_here; (with_reducible show wpAny _ _ (compareOp CmpOp.Eq (Value.ref _) (Value.str _ _)) _ _ _); k_dflt (refine eq_var_str (by k_asm) (by k_asm) (by k_asm) (by k_mem) (by ktr_units) ?_)))
  (k_with "call ref" => (k_here; (with_reducible show wpAny _ _ (call (Value.ref 77) _) _ _ _); k_dflt (refine make_lit_use (by k_asm) (by k_asm) (by k_asm) (by k_asm) (by k_asm) (by first | exact rfl | assumption) (by ktr_room) (by ktr_units) ?_); intro x9 d9 t90 h9 tk9 l1 l2 F9 N9; (try k_lt l1); (try k_lt2 l2); (try k_sweep); (try dsimp only at N9 ⊢); (try k_fold)))
  (k_with "call ref" => (k_here; (with_reducible show wpAny _ _ (call (Value.ref 105) _) _ _ _); k_dflt (refine make_num_use (by k_asm) (by k_asm) (by k_asm) (by k_asm) (by k_asm) (by first | exact rfl | assumption) (by ktr_room) (by ktr_units) ?_); intro x9 d9 t90 h9 tk9 l1 l2 F9 N9; (try k_lt l1); (try k_lt2 l2); (try k_sweep); (try dsimp only at N9 ⊢); (try k_fold)))
  (k_with "call ref" => (k_here; (with_reducible show wpAny _ _ (call (Value.ref 133) _) _ _ _); k_dflt (refine make_var_use (by k_asm) (by k_asm) (by k_asm) (by k_asm) (by k_asm) (by first | exact rfl | assumption) (by ktr_room) (by ktr_units) ?_); intro x9 d9 t90 h9 tk9 l1 l2 F9 N9; (try k_lt l1); (try k_lt2 l2); (try k_sweep); (try dsimp only at N9 ⊢); (try k_fold)))
  (k_with "call ref" => (k_here; (with_reducible show wpAny _ _ (call (Value.ref 161) _) _ _ _); k_dflt (refine make_call_use (by k_asm) (by k_asm) (by k_asm) (by k_asm) (by k_asm) (by first | exact rfl | assumption) (by ktr_room) (by ktr_units) ?_); intro x9 d9 t90 t91 h9 tk9 l1 l2 F9 N9; (try k_lt l1); (try k_lt2 l2); (try k_sweep); (try dsimp only at N9 ⊢); (try k_fold)))
  (k_with "call ref" => (k_here; (with_reducible show wpAny _ _ (call (Value.ref 189) _) _ _ _); k_dflt (refine make_bin_use (by k_asm) (by k_asm) (by k_asm) (by k_asm) (by k_asm) (by first | exact rfl | assumption) (by ktr_room) (by ktr_units) ?_); intro x9 d9 t90 t91 t92 h9 tk9 l1 l2 F9 N9; (try k_lt l1); (try k_lt2 l2); (try k_sweep); (try dsimp only at N9 ⊢); (try k_fold)))
  (k_with "call ref" => (k_here; (with_reducible show wpAny _ _ (call (Value.ref 217) _) _ _ _); k_dflt (refine make_neg_use (by k_asm) (by k_asm) (by k_asm) (by k_asm) (by k_asm) (by first | exact rfl | assumption) (by ktr_room) (by ktr_units) ?_); intro x9 d9 t90 h9 tk9 l1 l2 F9 N9; (try k_lt l1); (try k_lt2 l2); (try k_sweep); (try dsimp only at N9 ⊢); (try k_fold)))
  (k_with "call ref" => (k_here; (with_reducible show wpAny _ _ (call (Value.ref 245) _) _ _ _); k_dflt (refine make_filter_use (by k_asm) (by k_asm) (by k_asm) (by k_asm) (by k_asm) (by first | exact rfl | assumption) (by ktr_room) (by ktr_units) ?_); intro x9 d9 t90 t91 h9 tk9 l1 l2 F9 N9; (try k_lt l1); (try k_lt2 l2); (try k_sweep); (try dsimp only at N9 ⊢); (try k_fold)))
  (k_with "call ref" => (k_here; (with_reducible show wpAny _ _ (call (Value.ref 273) _) _ _ _); k_dflt (refine make_path_use (by k_asm) (by k_asm) (by k_asm) (by k_asm) (by k_asm) (by first | exact rfl | assumption) (by ktr_room) (by ktr_units) ?_); intro x9 d9 t90 t91 h9 tk9 l1 l2 F9 N9; (try k_lt l1); (try k_lt2 l2); (try k_sweep); (try dsimp only at N9 ⊢); (try k_fold)))
  (k_with "call ref" => (k_here; (with_reducible show wpAny _ _ (call (Value.ref 301) _) _ _ _); k_dflt (refine make_step_use (by k_asm) (by k_asm) (by k_asm) (by k_asm) (by k_asm) (by first | exact rfl | assumption) (by ktr_room) (by ktr_units) ?_); intro x9 d9 t90 t91 t92 h9 tk9 l1 l2 F9 N9; (try k_lt l1); (try k_lt2 l2); (try k_sweep); (try dsimp only at N9 ⊢); (try k_fold)))
  (k_with "exec Raise some none" => (k_here; (with_reducible show wpAny _ _ (exec (Stmt.Raise (some (PySem.Expr.Call (PySem.Expr.Name (PySem.Str.ofString "PathFault") _) _ _ _)) none _) _) _ _ _); k_dflt (refine raise_fault rfl ?_)))
  (k_with "call ref" => (k_here; (with_reducible show wpAny _ _ (call (Value.ref 51) _) _ _ _); k_dflt (refine Spec.use2 (by k_asm) (by k_asm) (by k_asm) (by k_asm) (by k_asm) (by first | exact rfl | assumption) fault_make (by ktr_room) (by ktr_units) ?_); intro v9 n9 h9 tk9 hp9 F9 N9; obtain ⟨e9, t9, d9, e8, e7, hn9⟩ := hp9; subst e8; subst e7; refine ⟨_, _, _, rfl, Frag.In.keeps (by k_asm) (Fr.keep F9), News.get N9 (.tail _ (.head _)), ?_⟩))
  (k_with "leaving ref" => (k_here; k_dflt (refine leave_fault (by assumption) (by k_asm) (by with_reducible assumption) (by assumption) ?_); intro h' S' R' U'; (try dsimp only at S' R' U' ⊢)))
  (k_with "noteFrame ref" => (k_here; (rename RaisedK _ _ _ _ _ _ _ _ => rkX); k_dflt (refine caught_fault (by assumption) (by assumption) (by assumption) (by exact rkX) (by k_asm) (by k_asm) (by k_is) ?_); intro h' F' N'; (try k_sweep)))
  (k_with "kts_go" => (first
  | (apply code_defS0; (case hA => exact rfl); (case F => k_asm); (case B => k_asm); (case X₀ => k_asm); (case N => k_asm); (case T => k_asm); (case ho => k_is); (case hcd => k_is); (case hroom => ktr_room); (case hbind => exact BindsTo.of_eq rfl); (case hloc => exact locs rfl); (case hck => assumption); (case hco => exact rfl); (case hgen => exact rfl); (case hk => exact rfl); (case hcell => decide); k_whole; intro g' L' h' FG' F' N' B' X' T' D'; (try dsimp only); (try k_lift B'); (try k_fold))
  | (apply code_defS; (case hA => exact rfl); (case F => k_asm); (case B => k_asm); (case XB => assumption); (case TB => assumption); (case D => assumption); (case T0 => first | assumption | exact KtsTurn.refl); (case X₀ => k_asm); (case N => k_asm); (case T => k_asm); (case ho => k_is); (case hcd => k_is); (case hroom => ktr_room); (case hbind => exact BindsTo.of_eq rfl); (case hloc => exact locs rfl); (case hck => first | assumption | exact rfl); (case hco => exact rfl); (case hgen => exact rfl); (case hk => exact rfl); (case hcell => decide); k_whole; intro g' L' h' FG' F' N' B' X' T' D'; (try dsimp only); (try k_lift B'); (try k_fold))))
  trivial
section
set_option maxHeartbeats 1000000 in
theorem told_any {prog : Program} {w : World} {p : Program} {loose : List Str} {mean : ExcName → Option Value} {mg mb : Str → Option Value} {news : List (Addr × Obj)} {r : Addr} {n : Nat} {t0 : Tok} (hr : (r, ({ cls := .type "tuple", data := .seq [.str (Str.ofString "any") t0].toArray n } : Obj)) ∈ news) : TestIs prog w p loose mean mg mb news r (Str.ofString "*") := by
  refine ⟨Spec.toT ?_⟩
  intro dp un gd cn cs a ccd cl outer A₀ base h₀ L m s Q E B F X N T hk hd hu hret
  refine wpAny_call ?_
  k_dflt cell_enter
  repeat' (first | (k_unfold; (try dsimp only)) | ((fail_if_success (with_reducible show Q _ _)); first | walk1 | (dsimp only; walk1) | (leave1; walk_say "STEP leave1"; (try dsimp only))))
  all_goals exact hret _ _ _ _ ⟨⟨_, rfl⟩, fun _ z => z⟩ (by k_asm) (by k_asm)
set_option maxHeartbeats 1000000 in
theorem told_anyof {prog : Program} {w : World} {p : Program} {loose : List Str} {mean : ExcName → Option Value} {mg mb : Str → Option Value} {news : List (Addr × Obj)} {r : Addr} {n : Nat} {t0 t1 : Tok} {x : Str} (hx : x.length ≤ 10) (hr : (r, ({ cls := .type "tuple", data := .seq [.str (Str.ofString "any of") t0, .str x t1].toArray n } : Obj)) ∈ news) : TestIs prog w p loose mean mg mb news r (x ++ Str.ofString ":*") := by
  refine ⟨Spec.toT ?_⟩
  intro dp un gd cn cs a ccd cl outer A₀ base h₀ L m s Q E B F X N T hk hd hu hret
  refine wpAny_call ?_
  k_dflt cell_enter
  repeat' (first | (k_unfold; (try dsimp only)) | ((fail_if_success (with_reducible show Q _ _)); first | walk1 | (dsimp only; walk1) | (leave1; walk_say "STEP leave1"; (try dsimp only))))
  all_goals exact hret _ _ _ _ ⟨⟨_, rfl⟩, fun _ z => z⟩ (by k_asm) (by k_asm)
set_option maxHeartbeats 1000000 in
theorem told_name {prog : Program} {w : World} {p : Program} {loose : List Str} {mean : ExcName → Option Value} {mg mb : Str → Option Value} {news : List (Addr × Obj)} {r : Addr} {n : Nat} {t0 t1 t2 : Tok} {x : Str} (hx : x.length ≤ 10) (hr : (r, ({ cls := .type "tuple", data := .seq [.str (Str.ofString "name") t0, .str (Str.ofString "") t1, .str x t2].toArray n } : Obj)) ∈ news) : TestIs prog w p loose mean mg mb news r (x) := by
  refine ⟨Spec.toT ?_⟩
  intro dp un gd cn cs a ccd cl outer A₀ base h₀ L m s Q E B F X N T hk hd hu hret
  refine wpAny_call ?_
  k_dflt cell_enter
  repeat' (first | (k_unfold; (try dsimp only)) | ((fail_if_success (with_reducible show Q _ _)); first | walk1 | (dsimp only; walk1) | (leave1; walk_say "STEP leave1"; (try dsimp only))))
  all_goals exact hret _ _ _ _ ⟨⟨_, rfl⟩, fun _ z => z⟩ (by k_asm) (by k_asm)
set_option maxHeartbeats 1000000 in
theorem told_pname {prog : Program} {w : World} {p : Program} {loose : List Str} {mean : ExcName → Option Value} {mg mb : Str → Option Value} {news : List (Addr × Obj)} {r : Addr} {n : Nat} {t0 t1 t2 : Tok} {x : Str} (hx : x.length ≤ 10) (hr : (r, ({ cls := .type "tuple", data := .seq [.str (Str.ofString "name") t0, .str (Str.ofString "p") t1, .str x t2].toArray n } : Obj)) ∈ news) : TestIs prog w p loose mean mg mb news r (Str.ofString "p" ++ Str.ofString ":" ++ x) := by
  refine ⟨Spec.toT ?_⟩
  intro dp un gd cn cs a ccd cl outer A₀ base h₀ L m s Q E B F X N T hk hd hu hret
  refine wpAny_call ?_
  k_dflt cell_enter
  repeat' (first | (k_unfold; (try dsimp only)) | ((fail_if_success (with_reducible show Q _ _)); first | walk1 | (dsimp only; walk1) | (leave1; walk_say "STEP leave1"; (try dsimp only))))
  all_goals exact hret _ _ _ _ ⟨⟨_, rfl⟩, fun _ z => z⟩ (by k_asm) (by k_asm)
set_option maxHeartbeats 1000000 in
theorem told_node {prog : Program} {w : World} {p : Program} {loose : List Str} {mean : ExcName → Option Value} {mg mb : Str → Option Value} {news : List (Addr × Obj)} {r : Addr} {n : Nat} {t0 : Tok} (hr : (r, ({ cls := .type "tuple", data := .seq [.str (Str.ofString "node") t0].toArray n } : Obj)) ∈ news) : TestIs prog w p loose mean mg mb news r (Str.ofString "node()") := by
  refine ⟨Spec.toT ?_⟩
  intro dp un gd cn cs a ccd cl outer A₀ base h₀ L m s Q E B F X N T hk hd hu hret
  refine wpAny_call ?_
  k_dflt cell_enter
  repeat' (first | (k_unfold; (try dsimp only)) | ((fail_if_success (with_reducible show Q _ _)); first | walk1 | (dsimp only; walk1) | (leave1; walk_say "STEP leave1"; (try dsimp only))))
  all_goals exact hret _ _ _ _ ⟨⟨_, rfl⟩, fun _ z => z⟩ (by k_asm) (by k_asm)
set_option maxHeartbeats 1000000 in
theorem told_text {prog : Program} {w : World} {p : Program} {loose : List Str} {mean : ExcName → Option Value} {mg mb : Str → Option Value} {news : List (Addr × Obj)} {r : Addr} {n : Nat} {t0 : Tok} (hr : (r, ({ cls := .type "tuple", data := .seq [.str (Str.ofString "text") t0].toArray n } : Obj)) ∈ news) : TestIs prog w p loose mean mg mb news r (Str.ofString "text()") := by
  refine ⟨Spec.toT ?_⟩
  intro dp un gd cn cs a ccd cl outer A₀ base h₀ L m s Q E B F X N T hk hd hu hret
  refine wpAny_call ?_
  k_dflt cell_enter
  repeat' (first | (k_unfold; (try dsimp only)) | ((fail_if_success (with_reducible show Q _ _)); first | walk1 | (dsimp only; walk1) | (leave1; walk_say "STEP leave1"; (try dsimp only))))
  all_goals exact hret _ _ _ _ ⟨⟨_, rfl⟩, fun _ z => z⟩ (by k_asm) (by k_asm)
set_option maxHeartbeats 1000000 in
theorem told_comment {prog : Program} {w : World} {p : Program} {loose : List Str} {mean : ExcName → Option Value} {mg mb : Str → Option Value} {news : List (Addr × Obj)} {r : Addr} {n : Nat} {t0 : Tok} (hr : (r, ({ cls := .type "tuple", data := .seq [.str (Str.ofString "comment") t0].toArray n } : Obj)) ∈ news) : TestIs prog w p loose mean mg mb news r (Str.ofString "comment()") := by
  refine ⟨Spec.toT ?_⟩
  intro dp un gd cn cs a ccd cl outer A₀ base h₀ L m s Q E B F X N T hk hd hu hret
  refine wpAny_call ?_
  k_dflt cell_enter
  repeat' (first | (k_unfold; (try dsimp only)) | ((fail_if_success (with_reducible show Q _ _)); first | walk1 | (dsimp only; walk1) | (leave1; walk_say "STEP leave1"; (try dsimp only))))
  all_goals exact hret _ _ _ _ ⟨⟨_, rfl⟩, fun _ z => z⟩ (by k_asm) (by k_asm)
set_option maxHeartbeats 1000000 in
theorem told_none {prog : Program} {w : World} {p : Program} {loose : List Str} {mean : ExcName → Option Value} {mg mb : Str → Option Value} {news : List (Addr × Obj)} {r : Addr} {n : Nat} {t0 : Tok} (hr : (r, ({ cls := .type "tuple", data := .seq [.str (Str.ofString "instruction") t0, .none].toArray n } : Obj)) ∈ news) : TestIs prog w p loose mean mg mb news r (Str.ofString "processing-instruction()") := by
  refine ⟨Spec.toT ?_⟩
  intro dp un gd cn cs a ccd cl outer A₀ base h₀ L m s Q E B F X N T hk hd hu hret
  refine wpAny_call ?_
  k_dflt cell_enter
  repeat' (first | (k_unfold; (try dsimp only)) | ((fail_if_success (with_reducible show Q _ _)); first | walk1 | (dsimp only; walk1) | (leave1; walk_say "STEP leave1"; (try dsimp only))))
  all_goals exact hret _ _ _ _ ⟨⟨_, rfl⟩, fun _ z => z⟩ (by k_asm) (by k_asm)
end
theorem rows_c18 : True := by
  k_with_none
  (k_with "ite" => first | with_reducible refine ite_tt ?_ | with_reducible refine ite_ff ?_)
  (k_with "mem" => first | with_reducible assumption | ((fail_if_success (refine' List.Mem.tail _ ?_)); assumption))
  (k_with "room" => ((try simp only [depth_mark, depth_under_make, depth_under_kw, depth_in1, depth_deeper, depth_caller]); (try dsimp only [ktrTop]); (first | exact room0 (by with_reducible assumption) | exact room1 (by with_reducible assumption) (by decide) | exact room2 (by with_reducible assumption) (by decide) | exact room3 (by with_reducible assumption) (by decide) | omega)))
  (k_with "units" => ((try simp only [units_in1, units_deeper, Around.mark_units, units_caller]); (try dsimp only [ktrTop]); (first | exact room0 (by with_reducible assumption) | exact room1 (by with_reducible assumption) (by decide) | exact room2 (by with_reducible assumption) (by decide) | exact room3 (by with_reducible assumption) (by decide) | omega)))
  (k_with "ne" => (refine neN ?_; first | exact ne0 (by with_reducible assumption) | exact ne1 (by with_reducible assumption) | exact ne2 (by with_reducible assumption) | exact ne3 (by with_reducible assumption) | exact ne4 (by with_reducible assumption) | exact ne5 (by with_reducible assumption) | ((try dsimp only); omega)))
  (k_with "subscriptTail Name Constant ref int" => (k_here; k_dflt (refine item_listL (News.isList (by k_asm) (by k_mem)) (by decide) (by decide) (by exact rfl) ?_ (by with_unfolding_all rfl) (by intro _; with_unfolding_all rfl); k_whole)))
  (k_with "subscriptTail Name Name ref int" => (k_here; k_dflt (refine item_listL (News.isList (by k_asm) (by k_mem)) (by decide) (by decide) (by exact rfl) ?_ (by with_unfolding_all rfl) (by intro _; with_unfolding_all rfl); k_whole)))
  (k_with "call ref" => (k_here; (with_reducible show wpAny _ _ (call (Value.ref 347) [Value.ref _, Value.int _ _]) _ _ _); k_dflt (refine take_use (by k_asm) (by k_asm) (by k_asm) (by k_asm) (by k_asm) (by first | exact rfl | assumption) (by k_updF) (by assumption) (by first | decide | omega) (by first | decide | omega) (by ktr_room) (by ktr_units) ?_); intro r9 t9 o9 h9 tk9 hlo9 hhi9 hs9 F9 N9; (try dsimp only at N9 hhi9 ⊢); (try k_fold)))
  (k_with "ke_room" => ktr_units)
  (k_with "compareOp Eq ref ref" => (k_here; k_dflt (refine tup_eq0 (News.isTup (by k_asm) (by k_mem)) (News.isTup (by k_asm) (by k_mem)) (by ktr_units) (by exact Nat.succ_ne_zero _) ?_)))
  (k_with "compareOp Eq ref" => (k_here; (with_reducible show wpAny _ _ (compareOp CmpOp.Eq (Value.ref _) (Value.str _ _)) _ _ _); k_dflt (refine eq_var_str (by k_asm) (by k_asm) (by k_asm) (by k_mem) (by ktr_units) ?_)))
  (k_with "call ref" => (k_here; (with_reducible show wpAny _ _ (call (Value.ref 77) _) _ _ _); k_dflt (refine make_lit_use (by k_asm) (by k_asm) (by k_asm) (by k_asm) (by k_asm) (by first | exact rfl | assumption) (by ktr_room) (by ktr_units) ?_); intro x9 d9 t90 h9 tk9 l1 l2 F9 N9; (try k_lt l1); (try k_lt2 l2); (try k_sweep); (try dsimp only at N9 ⊢); (try k_fold)))
  (k_with "call ref" => (k_here; (with_reducible show wpAny _ _ (call (Value.ref 105) _) _ _ _); k_dflt (refine make_num_use (by k_asm) (by k_asm) (by k_asm) (by k_asm) (by k_asm) (by first | exact rfl | assumption) (by ktr_room) (by ktr_units) ?_); intro x9 d9 t90 h9 tk9 l1 l2 F9 N9; (try k_lt l1); (try k_lt2 l2); (try k_sweep); (try dsimp only at N9 ⊢); (try k_fold)))
  (k_with "call ref" => (k_here; (with_reducible show wpAny _ _ (call (Value.ref 133) _) _ _ _); k_dflt (refine make_var_use (by k_asm) (by k_asm) (by k_asm) (by k_asm) (by k_asm) (by first | exact rfl | assumption) (by ktr_room) (by ktr_units) ?_); intro x9 d9 t90 h9 tk9 l1 l2 F9 N9; (try k_lt l1); (try k_lt2 l2); (try k_sweep); (try dsimp only at N9 ⊢); (try k_fold)))
  (k_with "call ref" => (k_here; (with_reducible show wpAny _ _ (call (Value.ref 161) _) _ _ _); k_dflt (refine make_call_use (by k_asm) (by k_asm) (by k_asm) (by k_asm) (by k_asm) (by first | exact rfl | assumption) (by ktr_room) (by ktr_units) ?_); intro x9 d9 t90 t91 h9 tk9 l1 l2 F9 N9; (try k_lt l1); (try k_lt2 l2); (try k_sweep); (try dsimp only at N9 ⊢); (try k_fold)))
  (k_with "call ref" => (k_here; (with_reducible show wpAny _ _ (call (Value.ref 189) _) _ _ _); k_dflt (refine make_bin_use (by k_asm) (by k_asm) (by k_asm) (by k_asm) (by k_asm) (by first | exact rfl | assumption) (by ktr_room) (by ktr_units) ?_); intro x9 d9 t90 t91 t92 h9 tk9 l1 l2 F9 N9; (try k_lt l1); (try k_lt2 l2); (try k_sweep); (try dsimp only at N9 ⊢); (try k_fold)))
  (k_with "call ref" => (k_here; (with_reducible show wpAny _ _ (call (Value.ref 217) _) _ _ _); k_dflt (refine make_neg_use (by k_asm) (by k_asm) (by k_asm) (by k_asm) (by k_asm) (by first | exact rfl | assumption) (by ktr_room) (by ktr_units) ?_); intro x9 d9 t90 h9 tk9 l1 l2 F9 N9; (try k_lt l1); (try k_lt2 l2); (try k_sweep); (try dsimp only at N9 ⊢); (try k_fold)))
  (k_with "call ref" => (k_here; (with_reducible show wpAny _ _ (call (Value.ref 245) _) _ _ _); k_dflt (refine make_filter_use (by k_asm) (by k_asm) (by k_asm) (by k_asm) (by k_asm) (by first | exact rfl | assumption) (by ktr_room) (by ktr_units) ?_); intro x9 d9 t90 t91 h9 tk9 l1 l2 F9 N9; (try k_lt l1); (try k_lt2 l2); (try k_sweep); (try dsimp only at N9 ⊢); (try k_fold)))
  (k_with "call ref" => (k_here; (with_reducible show wpAny _ _ (call (Value.ref 273) _) _ _ _); k_dflt (refine make_path_use (by k_asm) (by k_asm) (by k_asm) (by k_asm) (by k_asm) (by first | exact rfl | assumption) (by ktr_room) (by ktr_units) ?_); intro x9 d9 t90 t91 h9 tk9 l1 l2 F9 N9; (try k_lt l1); (try k_lt2 l2); (try k_sweep); (try dsimp only at N9 ⊢); (try k_fold)))
  (k_with "call ref" => (k_here; (with_reducible show wpAny _ _ (call (Value.ref 301) _) _ _ _); k_dflt (refine make_step_use (by k_asm) (by k_asm) (by k_asm) (by k_asm) (by k_asm) (by first | exact rfl | assumption) (by ktr_room) (by ktr_units) ?_); intro x9 d9 t90 t91 t92 h9 tk9 l1 l2 F9 N9; (try k_lt l1); (try k_lt2 l2); (try k_sweep); (try dsimp only at N9 ⊢); (try k_fold)))
  (k_with "exec Raise some none" => (k_here; (with_reducible show wpAny _ _ (exec (Stmt.Raise (some (PySem.Expr.Call (PySem.Expr.Name (PySem.Str.ofString "PathFault") _) _ _ _)) none _) _) _ _ _); k_dflt (refine raise_fault rfl ?_)))
  (k_with "call ref" => (k_here; (with_reducible show wpAny _ _ (call (Value.ref 51) _) _ _ _); k_dflt (refine Spec.use2 (by k_asm) (by k_asm) (by k_asm) (by k_asm) (by k_asm) (by first | exact rfl | assumption) fault_make (by ktr_room) (by ktr_units) ?_); intro v9 n9 h9 tk9 hp9 F9 N9; obtain ⟨e9, t9, d9, e8, e7, hn9⟩ := hp9; subst e8; subst e7; refine ⟨_, _, _, rfl, Frag.In.keeps (by k_asm) (Fr.keep F9), News.get N9 (.tail _ (.head _)), ?_⟩))
  (k_with "leaving ref" => (k_here; k_dflt (refine leave_fault (by assumption) (by k_asm) (by with_reducible assumption) (by assumption) ?_); intro h' S' R' U'; (try dsimp only at S' R' U' ⊢)))
  (k_with "noteFrame ref" => (k_here; (rename RaisedK _ _ _ _ _ _ _ _ => rkX); k_dflt (refine caught_fault (by assumption) (by assumption) (by assumption) (by exact rkX) (by k_asm) (by k_asm) (by k_is) ?_); intro h' F' N'; (try k_sweep)))
  (k_with "kts_go" => (first
  | (apply code_defS0; (case hA => exact rfl); (case F => k_asm); (case B => k_asm); (case X₀ => k_asm); (case N => k_asm); (case T => k_asm); (case ho => k_is); (case hcd => k_is); (case hroom => ktr_room); (case hbind => exact BindsTo.of_eq rfl); (case hloc => exact locs rfl); (case hck => assumption); (case hco => exact rfl); (case hgen => exact rfl); (case hk => exact rfl); (case hcell => decide); k_whole; intro g' L' h' FG' F' N' B' X' T' D'; (try dsimp only); (try k_lift B'); (try k_fold))
  | (apply code_defS; (case hA => exact rfl); (case F => k_asm); (case B => k_asm); (case XB => assumption); (case TB => assumption); (case D => assumption); (case T0 => first | assumption | exact KtsTurn.refl); (case X₀ => k_asm); (case N => k_asm); (case T => k_asm); (case ho => k_is); (case hcd => k_is); (case hroom => ktr_room); (case hbind => exact BindsTo.of_eq rfl); (case hloc => exact locs rfl); (case hck => first | assumption | exact rfl); (case hco => exact rfl); (case hgen => exact rfl); (case hk => exact rfl); (case hcell => decide); k_whole; intro g' L' h' FG' F' N' B' X' T' D'; (try dsimp only); (try k_lift B'); (try k_fold))))
  trivial
section
theorem str_due {x y : Str} {t : Tok} (h : y = x) : ∃ u, Value.str x t = .str y u := ⟨t, by rw [h]⟩
set_option maxHeartbeats 1000000 in
theorem told_quot {prog : Program} {w : World} {p : Program} {loose : List Str} {mean : ExcName → Option Value} {mg mb : Str → Option Value} {news : List (Addr × Obj)} {r : Addr} {n : Nat} {t0 t1 : Tok} {x due : Str} (hx : x.length ≤ 10) (hr : (r, ({ cls := .type "tuple", data := .seq [.str (Str.ofString "instruction") t0, .str x t1].toArray n } : Obj)) ∈ news)
    (h1 : (Builtin.Str.occurrences x (Str.ofString "\"") 0 x.length 1).isEmpty = true → due = Str.ofString "processing-instruction(" ++ (Str.ofString "\"" ++ x ++ Str.ofString "\"") ++ Str.ofString ")")
    (h2 : (Builtin.Str.occurrences x (Str.ofString "\"") 0 x.length 1).isEmpty = false → (Builtin.Str.occurrences x (Str.ofString "'") 0 x.length 1).isEmpty = true → due = Str.ofString "processing-instruction(" ++ (Str.ofString "'" ++ x ++ Str.ofString "'") ++ Str.ofString ")")
    (h3 : (Builtin.Str.occurrences x (Str.ofString "\"") 0 x.length 1).isEmpty = false → (Builtin.Str.occurrences x (Str.ofString "'") 0 x.length 1).isEmpty = false → due = Str.ofString "") : TestIs prog w p loose mean mg mb news r due := by
  refine ⟨?_⟩
  intro dp un gd cn cs a ccd A₀ base h₀ L m s Q E B F X N T XB TB hk hd hu hret
  refine wpAny_call ?_
  kts_go
  repeat' (first | (k_unfold; (try dsimp only)) | ((fail_if_success (with_reducible show Q _ _)); first | walk1 | (dsimp only; walk1) | (leave1; walk_say "STEP leave1"; (try dsimp only))))
  all_goals first
    | exact hret _ _ _ _ ⟨str_due (h1 (by assumption)), fun _ z => z⟩ (by k_asm) (by k_asm)
    | exact hret _ _ _ _ ⟨str_due (h2 (by assumption) (by assumption)), fun _ z => z⟩ (by k_asm) (by k_asm)
    | exact hret _ _ _ _ ⟨str_due (h3 (by assumption) (by assumption)), fun _ z => z⟩ (by k_asm) (by k_asm)
end
theorem rows_c19 : True := by
  k_with_none
  (k_with "ite" => first | with_reducible refine ite_tt ?_ | with_reducible refine ite_ff ?_)
  (k_with "mem" => first | with_reducible assumption | ((fail_if_success (refine' List.Mem.tail _ ?_)); assumption))
  (k_with "room" => ((try simp only [depth_mark, depth_under_make, depth_under_kw, depth_in1, depth_deeper, depth_caller]); (try dsimp only [ktrTop]); (first | exact room0 (by with_reducible assumption) | exact room1 (by with_reducible assumption) (by decide) | exact room2 (by with_reducible assumption) (by decide) | exact room3 (by with_reducible assumption) (by decide) | omega)))
  (k_with "units" => ((try simp only [units_in1, units_deeper, Around.mark_units, units_caller]); (try dsimp only [ktrTop]); (first | exact room0 (by with_reducible assumption) | exact room1 (by with_reducible assumption) (by decide) | exact room2 (by with_reducible assumption) (by decide) | exact room3 (by with_reducible assumption) (by decide) | omega)))
  (k_with "ne" => (refine neN ?_; first | exact ne0 (by with_reducible assumption) | exact ne1 (by with_reducible assumption) | exact ne2 (by with_reducible assumption) | exact ne3 (by with_reducible assumption) | exact ne4 (by with_reducible assumption) | exact ne5 (by with_reducible assumption) | ((try dsimp only); omega)))
  (k_with "subscriptTail Name Constant ref int" => (k_here; k_dflt (refine item_listL (News.isList (by k_asm) (by k_mem)) (by decide) (by decide) (by exact rfl) ?_ (by with_unfolding_all rfl) (by intro _; with_unfolding_all rfl); k_whole)))
  (k_with "subscriptTail Name Name ref int" => (k_here; k_dflt (refine item_listL (News.isList (by k_asm) (by k_mem)) (by decide) (by decide) (by exact rfl) ?_ (by with_unfolding_all rfl) (by intro _; with_unfolding_all rfl); k_whole)))
  (k_with "call ref" => (k_here; (with_reducible show wpAny _ _ (call (Value.ref 347) [Value.ref _, Value.int _ _]) _ _ _); k_dflt (refine take_use (by k_asm) (by k_asm) (by k_asm) (by k_asm) (by k_asm) (by first | exact rfl | assumption) (by k_updF) (by assumption) (by first | decide | omega) (by first | decide | omega) (by ktr_room) (by ktr_units) ?_); intro r9 t9 o9 h9 tk9 hlo9 hhi9 hs9 F9 N9; (try dsimp only at N9 hhi9 ⊢); (try k_fold)))
  (k_with "ke_room" => ktr_units)
  (k_with "compareOp Eq ref ref" => (k_here; k_dflt (refine tup_eq0 (News.isTup (by k_asm) (by k_mem)) (News.isTup (by k_asm) (by k_mem)) (by ktr_units) (by exact Nat.succ_ne_zero _) ?_)))
  (k_with "compareOp Eq ref" => (k_here; (with_reducible show wpAny _ _ (compareOp CmpOp.Eq (Value.ref _) (Value.str _ _)) _ _ _); k_dflt (refine eq_var_str (by k_asm) (by k_asm) (by k_asm) (by k_mem) (by ktr_units) ?_)))
  (k_with "call ref" => (k_here; (with_reducible show wpAny _ _ (call (Value.ref 77) _) _ _ _); k_dflt (refine make_lit_use (by k_asm) (by k_asm) (by k_asm) (by k_asm) (by k_asm) (by first | exact rfl | assumption) (by ktr_room) (by ktr_units) ?_); intro x9 d9 t90 h9 tk9 l1 l2 F9 N9; (try k_lt l1); (try k_lt2 l2); (try k_sweep); (try dsimp only at N9 ⊢); (try k_fold)))
  (k_with "call ref" => (k_here; (with_reducible show wpAny _ _ (call (Value.ref 105) _) _ _ _); k_dflt (refine make_num_use (by k_asm) (by k_asm) (by k_asm) (by k_asm) (by k_asm) (by first | exact rfl | assumption) (by ktr_room) (by ktr_units) ?_); intro x9 d9 t90 h9 tk9 l1 l2 F9 N9; (try k_lt l1); (try k_lt2 l2); (try k_sweep); (try dsimp only at N9 ⊢); (try k_fold)))
  (k_with "call ref" => (k_here; (with_reducible show wpAny _ _ (call (Value.ref 133) _) _ _ _); k_dflt (refine make_var_use (by k_asm) (by k_asm) (by k_asm) (by k_asm) (by k_asm) (by first | exact rfl | assumption) (by ktr_room) (by ktr_units) ?_); intro x9 d9 t90 h9 tk9 l1 l2 F9 N9; (try k_lt l1); (try k_lt2 l2); (try k_sweep); (try dsimp only at N9 ⊢); (try k_fold)))
  (k_with "call ref" => (k_here; (with_reducible show wpAny _ _ (call (Value.ref 161) _) _ _ _); k_dflt (refine make_call_use (by k_asm) (by k_asm) (by k_asm) (by k_asm) (by k_asm) (by first | exact rfl | assumption) (by ktr_room) (by ktr_units) ?_); intro x9 d9 t90 t91 h9 tk9 l1 l2 F9 N9; (try k_lt l1); (try k_lt2 l2); (try k_sweep); (try dsimp only at N9 ⊢); (try k_fold)))
  (k_with "call ref" => (k_here; (with_reducible show wpAny _ _ (call (Value.ref 189) _) _ _ _); k_dflt (refine make_bin_use (by k_asm) (by k_asm) (by k_asm) (by k_asm) (by k_asm) (by first | exact rfl | assumption) (by ktr_room) (by ktr_units) ?_); intro x9 d9 t90 t91 t92 h9 tk9 l1 l2 F9 N9; (try k_lt l1); (try k_lt2 l2); (try k_sweep); (try dsimp only at N9 ⊢); (try k_fold)))
  (k_with "call ref" => (k_here; (with_reducible show wpAny _ _ (call (Value.ref 217) _) _ _ _); k_dflt (refine make_neg_use (by k_asm) (by k_asm) (by k_asm) (by k_asm) (by k_asm) (by first | exact rfl | assumption) (by ktr_room) (by ktr_units) ?_); intro x9 d9 t90 h9 tk9 l1 l2 F9 N9; (try k_lt l1); (try k_lt2 l2); (try k_sweep); (try dsimp only at N9 ⊢); (try k_fold)))
  (k_with "call ref" => (k_here; (with_reducible show wpAny _ _ (call (Value.ref 245) _) _ _ _); k_dflt (refine make_filter_use (by k_asm) (by k_asm) (by k_asm) (by k_asm) (by k_asm) (by first | exact rfl | assumption) (by ktr_room) (by ktr_units) ?_); intro x9 d9 t90 t91 h9 tk9 l1 l2 F9 N9; (try k_lt l1); (try k_lt2 l2); (try k_sweep); (try dsimp only at N9 ⊢); (try k_fold)))
  (k_with "call ref" => (k_here; (with_reducible show wpAny _ _ (call (Value.ref 273) _) _ _ _); k_dflt (refine make_path_use (by k_asm) (by k_asm) (by k_asm) (by k_asm) (by k_asm) (by first | exact rfl | assumption) (by ktr_room) (by ktr_units) ?_); intro x9 d9 t90 t91 h9 tk9 l1 l2 F9 N9; (try k_lt l1); (try k_lt2 l2); (try k_sweep); (try dsimp only at N9 ⊢); (try k_fold)))
  (k_with "call ref" => (k_here; (with_reducible show wpAny _ _ (call (Value.ref 301) _) _ _ _); k_dflt (refine make_step_use (by k_asm) (by k_asm) (by k_asm) (by k_asm) (by k_asm) (by first | exact rfl | assumption) (by ktr_room) (by ktr_units) ?_); intro x9 d9 t90 t91 t92 h9 tk9 l1 l2 F9 N9; (try k_lt l1); (try k_lt2 l2); (try k_sweep); (try dsimp only at N9 ⊢); (try k_fold)))
  (k_with "exec Raise some none" => (k_here; (with_reducible show wpAny _ _ (exec (Stmt.Raise (some (PySem.Expr.Call (PySem.Expr.Name (PySem.Str.ofString "PathFault") _) _ _ _)) none _) _) _ _ _); k_dflt (refine raise_fault rfl ?_)))
  (k_with "call ref" => (k_here; (with_reducible show wpAny _ _ (call (Value.ref 51) _) _ _ _); k_dflt (refine Spec.use2 (by k_asm) (by k_asm) (by k_asm) (by k_asm) (by k_asm) (by first | exact rfl | assumption) fault_make (by ktr_room) (by ktr_units) ?_); intro v9 n9 h9 tk9 hp9 F9 N9; obtain ⟨e9, t9, d9, e8, e7, hn9⟩ := hp9; subst e8; subst e7; refine ⟨_, _, _, rfl, Frag.In.keeps (by k_asm) (Fr.keep F9), News.get N9 (.tail _ (.head _)), ?_⟩))
  (k_with "leaving ref" => (k_here; k_dflt (refine leave_fault (by assumption) (by k_asm) (by with_reducible assumption) (by assumption) ?_); intro h' S' R' U'; (try dsimp only at S' R' U' ⊢)))
  (k_with "noteFrame ref" => (k_here; (rename RaisedK _ _ _ _ _ _ _ _ => rkX); k_dflt (refine caught_fault (by assumption) (by assumption) (by assumption) (by exact rkX) (by k_asm) (by k_asm) (by k_is) ?_); intro h' F' N'; (try k_sweep)))
  (k_with "kts_go" => (first
  | (apply code_defS0; (case hA => exact rfl); (case F => k_asm); (case B => k_asm); (case X₀ => k_asm); (case N => k_asm); (case T => k_asm); (case ho => k_is); (case hcd => k_is); (case hroom => ktr_room); (case hbind => exact BindsTo.of_eq rfl); (case hloc => exact locs rfl); (case hck => assumption); (case hco => exact rfl); (case hgen => exact rfl); (case hk => exact rfl); (case hcell => decide); k_whole; intro g' L' h' FG' F' N' B' X' T' D'; (try dsimp only); (try k_lift B'); (try k_fold))
  | (apply code_defS; (case hA => exact rfl); (case F => k_asm); (case B => k_asm); (case XB => assumption); (case TB => assumption); (case D => assumption); (case T0 => first | assumption | exact KtsTurn.refl); (case X₀ => k_asm); (case N => k_asm); (case T => k_asm); (case ho => k_is); (case hcd => k_is); (case hroom => ktr_room); (case hbind => exact BindsTo.of_eq rfl); (case hloc => exact locs rfl); (case hck => first | assumption | exact rfl); (case hco => exact rfl); (case hgen => exact rfl); (case hk => exact rfl); (case hcell => decide); k_whole; intro g' L' h' FG' F' N' B' X' T' D'; (try dsimp only); (try k_lift B'); (try k_fold))))
  trivial
section
/-- the contract of a def that may catch, called from any def's frame -/
def SpecR (prog : Program) (w : World) (p : Program) (loose : List Str) (mean : ExcName → Option Value) (mg mb : Str → Option Value) (f : Addr) (vs : List Value) (news : List (Addr × Obj)) (dn un₀ : Nat) (Post : Value → List (Addr × Obj) → Prop) : Prop :=
  ∀ (dp un : Nat) (gd : Option (List Code)) (cn : Str) (cs : Scope) (a : Addr) (ccd : Value) (outer : List Env) (A₀ : Around) (base h₀ g₀ : Heap) (L : Addr) (m : Str → Option Value) (s : Shared) (Q E : Value → Shared → Prop),
    Below A₀ base outer h₀ → Fr h₀ L s.heap m → (hd.heap_39 w.params).In h₀ → News h₀ L s.heap news → Top p loose mean mg mb h₀ → (hd.heap_39 w.params).In base → Top p loose mean mg mb base → KtsDicts (outer.filterMap (·.frame)) h₀ → KtsTurn (outer.filterMap (·.frame)) g₀ h₀ → cs.kind = .function →
    dp + dn < recursionLimit → un + un₀ < cLine →
    (∀ (v : Value) (news' : List (Addr × Obj)) (h' : Heap) (tk' : Nat) (h₁ : Heap), Post v news' → KtsTurn (outer.filterMap (·.frame)) g₀ h₁ → Fr h₁ L h' m → News h₁ L h' news' → Below A₀ base outer h₁ → (hd.heap_39 w.params).In h₁ → Top p loose mean mg mb h₁ → KtsDicts (outer.filterMap (·.frame)) h₁ → Q v { s with heap := h', toks := tk' }) →
      wpAny (model prog w) (ktrTop dp un gd cn cs L a ccd [] outer) (call (.ref f) vs) Q E s
section
set_option maxHeartbeats 1000000 in
theorem written_bad {prog : Program} {w : World} {p : Program} {loose : List Str} {mean : ExcName → Option Value} {mg mb : Str → Option Value} {news : List (Addr × Obj)} {r : Addr} {n : Nat} {t1 t2 : Tok} {V B : Int}
    (hr : (r, ({ cls := .type "tuple", data := .seq [.int V t1, .int B t2].toArray n } : Obj)) ∈ news) (hS : V < 0 ∨ B = 0) :
    SpecR prog w p loose mean mg mb 375 [.ref r] news 6 400 (fun v n2 => (∃ t, v = .str (Str.ofString "") t) ∧ n2 = news) := by
  intro dp un gd cn cs a ccd outer A₀ base h₀ g₀ L m s Q E B0 F X N T XB TB D T0 hk hd hu hret
  k_with "exec While BoolOp cons nil" => (exfalso; omega)
  refine wpAny_call ?_
  kts_go
  repeat' (first | (k_unfold; (try dsimp only)) | ((fail_if_success (with_reducible show Q _ _)); first | walk1 | (dsimp only; walk1) | (leave1; walk_say "STEP leave1"; (try dsimp only))))
  all_goals exact hret _ _ _ _ _ ⟨⟨_, rfl⟩, rfl⟩ (by assumption) (by k_asm) (by k_asm) (by assumption) (by assumption) (by assumption) (by assumption)
end
section
theorem rows_c19_7 : True := by
  (k_with "binaryOp Pow int int" => (refine pow_int_small ?_ ?_ ?_ ?_; omega; omega; decide))
  (k_with "binaryOp Mult int int" => (refine mul_int ?_ (IntMulOk.of_left (intBits_le_64 (by omega) (by omega)))))
  trivial
set_option maxHeartbeats 1000000 in
theorem written_long {prog : Program} {w : World} {p : Program} {loose : List Str} {mean : ExcName → Option Value} {mg mb : Str → Option Value} {news : List (Addr × Obj)} {r : Addr} {n : Nat} {t1 t2 : Tok} {V B : Int}
    (hr : (r, ({ cls := .type "tuple", data := .seq [.int V t1, .int B t2].toArray n } : Obj)) ∈ news) (hV : 0 ≤ V) (hV2 : V < 1000000000000) (hB : 0 < B) (hB1 : B ≠ 1) (hno : ∀ j : Int, 0 ≤ j → j ≤ 400 → (V * 10 ^ j.toNat).fmod B ≠ 0) :
    SpecR prog w p loose mean mg mb 375 [.ref r] news 6 400 (fun v n2 => (∃ t, v = .str (Str.ofString "") t) ∧ n2 = news) := by
  intro dp un gd cn cs a ccd outer A₀ base h₀ g₀ L m s Q E B0 F X N T XB TB D T0 hk hd hu hret
  k_with "exec While BoolOp cons nil" => k_while (fun (_ : List Int) f => 0 ≤ f ∧ f ≤ 400) (fun (_ : List Int) f => (400 - f).toNat) "figures"
  k_with "state" => exact ⟨by omega, by omega⟩
  k_with "binaryOp FloorDiv int int" => (exfalso; first | (rename (V * 10 ^ Int.toNat _).fmod B = 0 => hz; exact absurd hz (hno _ (by assumption) (by assumption))) | (rename B = 1 => hz; exact absurd hz hB1))
  refine wpAny_call ?_
  kts_go
  repeat' (first | (k_unfold; (try dsimp only)) | ((fail_if_success (with_reducible show Q _ _)); first | walk1 | (dsimp only; walk1) | (leave1; walk_say "STEP leave1"; (try dsimp only))))
  all_goals exact hret _ _ _ _ _ ⟨⟨_, rfl⟩, rfl⟩ (by assumption) (by k_asm) (by k_asm) (by assumption) (by assumption) (by assumption) (by assumption)
end
end
end
section
theorem rows_c20 : True := by
  k_with_none
  (k_with "ite" => first | with_reducible refine ite_tt ?_ | with_reducible refine ite_ff ?_)
  (k_with "mem" => first | with_reducible assumption | ((fail_if_success (refine' List.Mem.tail _ ?_)); assumption))
  (k_with "room" => ((try simp only [depth_mark, depth_under_make, depth_under_kw, depth_in1, depth_deeper, depth_caller]); (try dsimp only [ktrTop]); (first | exact room0 (by with_reducible assumption) | exact room1 (by with_reducible assumption) (by decide) | exact room2 (by with_reducible assumption) (by decide) | exact room3 (by with_reducible assumption) (by decide) | omega)))
  (k_with "units" => ((try simp only [units_in1, units_deeper, Around.mark_units, units_caller]); (try dsimp only [ktrTop]); (first | exact room0 (by with_reducible assumption) | exact room1 (by with_reducible assumption) (by decide) | exact room2 (by with_reducible assumption) (by decide) | exact room3 (by with_reducible assumption) (by decide) | omega)))
  (k_with "ne" => (refine neN ?_; first | exact ne0 (by with_reducible assumption) | exact ne1 (by with_reducible assumption) | exact ne2 (by with_reducible assumption) | exact ne3 (by with_reducible assumption) | exact ne4 (by with_reducible assumption) | exact ne5 (by with_reducible assumption) | ((try dsimp only); omega)))
  (k_with "subscriptTail Name Constant ref int" => (k_here; k_dflt (refine item_listL (News.isList (by k_asm) (by k_mem)) (by decide) (by decide) (by exact rfl) ?_ (by with_unfolding_all rfl) (by intro _; with_unfolding_all rfl); k_whole)))
  (k_with "subscriptTail Name Name ref int" => (k_here; k_dflt (refine item_listL (News.isList (by k_asm) (by k_mem)) (by decide) (by decide) (by exact rfl) ?_ (by with_unfolding_all rfl) (by intro _; with_unfolding_all rfl); k_whole)))
  (k_with "call ref" => (k_here; (with_reducible show wpAny _ _ (call (Value.ref 347) [Value.ref _, Value.int _ _]) _ _ _); k_dflt (refine take_use (by k_asm) (by k_asm) (by k_asm) (by k_asm) (by k_asm) (by first | exact rfl | assumption) (by k_updF) (by assumption) (by first | decide | omega) (by first | decide | omega) (by ktr_room) (by ktr_units) ?_); intro r9 t9 o9 h9 tk9 hlo9 hhi9 hs9 F9 N9; (try dsimp only at N9 hhi9 ⊢); (try k_fold)))
  trivial
section
theorem gen_toks {M : Model} {A : Around} {α : Type} {c : Sem α} {Q : α → Shared → Prop} {E : Value → Shared → Prop} {h : Heap} {g d o X} (k : ∀ tk : Nat, 0 < tk → wpAny M A c Q E ⟨h, g, d, tk, o⟩) : wpAny M A c Q E ⟨h, g, d, X + 1, o⟩ := k _ (Nat.succ_pos _)
theorem TestIs.cast {prog : Program} {w : World} {p : Program} {loose : List Str} {mean : ExcName → Option Value} {mg mb : Str → Option Value} {news : List (Addr × Obj)} {r : Addr} {x y : Str} (h : TestIs prog w p loose mean mg mb news r x) (e : x = y) : TestIs prog w p loose mean mg mb news r y := e ▸ h
theorem short_mem {l : List Str} {x : Str} (h : x ∈ l) (hl : (l.all fun y => decide (y.length ≤ 10)) = true) : x.length ≤ 10 := of_decide_eq_true (List.all_eq_true.mp hl x h)
theorem rep_len {y : Str} (hy : y ∈ [Str.ofString "t", Str.ofString "", Str.ofString "'", Str.ofString "a'b"]) : (Txt.replace y (Str.ofString "'") (Str.ofString "\"")).length ≤ 10 := by
  simp only [List.mem_cons, List.not_mem_nil, or_false] at hy
  rcases hy with rfl | rfl | rfl | rfl <;> decide +kernel
section
variable {prog : Program} {w : World} {p : Program} {loose : List Str} {mean : ExcName → Option Value} {mg mb : Str → Option Value} {news : List (Addr × Obj)} {r : Addr} {n : Nat} {t0 t1 t2 : Tok} {x y : Str}
theorem told_p (hx : x.length ≤ 10) (hr : (r, ({ cls := .type "tuple", data := .seq [.str (Str.ofString "name") t0, .str (Str.ofString "p") t1, .str x t2].toArray n } : Obj)) ∈ news) : TestIs prog w p loose mean mg mb news r (Str.ofString "p:" ++ x) :=
  (told_pname hx hr).cast (congrArg (· ++ x) (by decide +kernel))
theorem told_target (hy : y ∈ [Str.ofString "t", Str.ofString "", Str.ofString "'", Str.ofString "a'b"]) (hr : (r, ({ cls := .type "tuple", data := .seq [.str (Str.ofString "instruction") t0, .str y t1].toArray n } : Obj)) ∈ news) :
    TestIs prog w p loose mean mg mb news r (Str.ofString "processing-instruction(\"" ++ y ++ Str.ofString "\")") := by
  simp only [List.mem_cons, List.not_mem_nil, or_false] at hy
  rcases hy with rfl | rfl | rfl | rfl <;> exact told_quot (by decide +kernel) hr (by decide +kernel) (by decide +kernel) (by decide +kernel)
theorem told_other (hy : y ∈ [Str.ofString "t", Str.ofString "", Str.ofString "'", Str.ofString "a'b"]) (hr : (r, ({ cls := .type "tuple", data := .seq [.str (Str.ofString "instruction") t0, .str (Txt.replace y (Str.ofString "'") (Str.ofString "\"") ++ Str.ofString "\"") t1].toArray n } : Obj)) ∈ news) :
    TestIs prog w p loose mean mg mb news r (Str.ofString "processing-instruction('" ++ (Txt.replace y (Str.ofString "'") (Str.ofString "\"") ++ Str.ofString "\"") ++ Str.ofString "')") := by
  simp only [List.mem_cons, List.not_mem_nil, or_false] at hy
  rcases hy with rfl | rfl | rfl | rfl <;> exact told_quot (by decide +kernel) hr (by decide +kernel) (by decide +kernel) (by decide +kernel)
theorem told_both (hy : y ∈ [Str.ofString "t", Str.ofString "", Str.ofString "'", Str.ofString "a'b"]) (hr : (r, ({ cls := .type "tuple", data := .seq [.str (Str.ofString "instruction") t0, .str (y ++ Str.ofString "'" ++ Str.ofString "\"") t1].toArray n } : Obj)) ∈ news) :
    TestIs prog w p loose mean mg mb news r (Str.ofString "") := by
  simp only [List.mem_cons, List.not_mem_nil, or_false] at hy
  rcases hy with rfl | rfl | rfl | rfl <;> exact told_quot (by decide +kernel) hr (by decide +kernel) (by decide +kernel) (by decide +kernel)
end
section
theorem rows_c20_8 : True := by
  (k_with "execs cons" => (k_here; (try dsimp only); (with_reducible refine gen_toks ?_); intro tk htk))
  (k_with "call ref" => (k_here; (with_reducible show wpAny _ _ (call (Value.ref 354) [Value.ref _, Value.ref _]) _ _ _); k_dflt (refine one_use (by k_asm) (by k_asm) (by k_asm) (by k_asm) (by k_asm) (by first | exact rfl | assumption) (by k_updF) (by assumption) (by k_mem) (by k_ne) (by exact Nat.zero_lt_succ _) (by exact Nat.le_of_ble_eq_true rfl) (by ktr_room) (by ktr_units) ?_); intro v9 o9 h9 tk9 hm9 hs9 F9 N9; (try (replace hm9 := strs_mem rfl hm9; obtain ⟨x9, t9, e9, hw9⟩ := hm9; subst e9; dsimp only [strWords] at hw9; (have hl9 := short_mem hw9 (by decide +kernel)))); all_goals ((try dsimp only at N9 ⊢); (try k_fold))))
  (k_with "call builtin:str.replace" => (k_here; (refine SC.replaceW ?_ ?_ ?_ ?_ ?_ ?_ ?_; (show @Ne Nat _ _; omega); (show @Ne Nat _ _; omega); (show @Ne Nat _ _; omega); decide +kernel; omega; decide +kernel); intro _ _; (have hl9 := rep_len (by assumption))))
  (k_with "tb" => (first
  | ((with_reducible apply told_anyof); assumption; (repeat (first | exact List.Mem.head _ | refine' List.Mem.tail _ ?_)); done)
  | ((with_reducible apply told_p); assumption; (repeat (first | exact List.Mem.head _ | refine' List.Mem.tail _ ?_)); done)
  | ((with_reducible apply told_name); assumption; (repeat (first | exact List.Mem.head _ | refine' List.Mem.tail _ ?_)); done)
  | ((with_reducible apply told_target); assumption; (repeat (first | exact List.Mem.head _ | refine' List.Mem.tail _ ?_)); done)
  | ((with_reducible apply told_other); assumption; (repeat (first | exact List.Mem.head _ | refine' List.Mem.tail _ ?_)); done)
  | ((with_reducible apply told_both); assumption; (repeat (first | exact List.Mem.head _ | refine' List.Mem.tail _ ?_)); done)
  | (refine TestIs.cast (told_any (by (repeat (first | exact List.Mem.head _ | refine' List.Mem.tail _ ?_)); done)) (by decide +kernel))
  | (refine TestIs.cast (told_node (by (repeat (first | exact List.Mem.head _ | refine' List.Mem.tail _ ?_)); done)) (by decide +kernel))
  | (refine TestIs.cast (told_text (by (repeat (first | exact List.Mem.head _ | refine' List.Mem.tail _ ?_)); done)) (by decide +kernel))
  | (refine TestIs.cast (told_comment (by (repeat (first | exact List.Mem.head _ | refine' List.Mem.tail _ ?_)); done)) (by decide +kernel))
  | (refine TestIs.cast (told_none (by (repeat (first | exact List.Mem.head _ | refine' List.Mem.tail _ ?_)); done)) (by decide +kernel))))
  trivial
set_option maxHeartbeats 1000000 in
theorem test_spec {prog : Program} {w : World} {p : Program} {loose : List Str} {mean : ExcName → Option Value} {mg mb : Str → Option Value} {src : Addr} {o : Obj} {news : List (Addr × Obj)} {g : Obj → List (Addr × Obj)}
    (U : UpdF src o news g) (ho : SrcOk o) :
    Spec prog w p loose mean mg mb 401 [.ref src] news 4 500 (fun v nn => ∃ e r due td n o', v = .ref e ∧ (e, ({ cls := .type "tuple", data := .seq [.ref r, .str due td].toArray n } : Obj)) ∈ nn ∧ (src, o') ∈ nn ∧ SrcOk o' ∧ (∀ q ∈ news, q.1 ≠ src → q ∈ nn) ∧ TestIs prog w p loose mean mg mb nn r due) := by
  obtain ⟨pre, post, rfl, hg, hpre, hpost⟩ := U.split
  clear U
  have hap := apart hpre hpost
  intro dp un gd cn cs a ccd cl outer A₀ base h₀ L m s Q E B F X N T hk hd hu hret
  replace N := news_perm N to_front
  have hin : ∀ {nn : List (Addr × Obj)}, (∀ q ∈ pre ++ post, q ∈ nn) → ∀ q ∈ pre ++ (src, o) :: post, q.1 ≠ src → q ∈ nn := rest_in
  generalize hrest : pre ++ post = rest at hap N hin
  refine wpAny_call ?_
  k_dflt cell_enter
  repeat' (first | (k_unfold; (try dsimp only)) | ((fail_if_success (with_reducible show Q _ _)); first | walk1 | (dsimp only; walk1) | (leave1; walk_say "STEP leave1"; (try dsimp only))))
  all_goals ((rename Value => v9); revert v9; (repeat' (first | exact List.forall_mem_nil _ | refine List.forall_mem_cons.mpr ⟨?_, ?_⟩)))
  all_goals refine hret _ _ _ _ ?_ (by k_asm) (by k_asm)
  all_goals refine ⟨_, _, _, _, _, _, rfl, by repeat (first | exact List.Mem.head _ | refine' List.Mem.tail _ ?_), by repeat (first | exact List.Mem.head _ | refine' List.Mem.tail _ ?_), by assumption, hin (by intro q hq; repeat (first | exact hq | refine List.mem_cons_of_mem _ ?_)), ?_⟩
  all_goals k_extra "tb"
end
end
end
section
theorem rows_c21 : True := by
  k_with_none
  (k_with "ite" => first | with_reducible refine ite_tt ?_ | with_reducible refine ite_ff ?_)
  (k_with "mem" => first | with_reducible assumption | ((fail_if_success (refine' List.Mem.tail _ ?_)); assumption))
  (k_with "room" => ((try simp only [depth_mark, depth_under_make, depth_under_kw, depth_in1, depth_deeper, depth_caller]); (try dsimp only [ktrTop]); (first | exact room0 (by with_reducible assumption) | exact room1 (by with_reducible assumption) (by decide) | exact room2 (by with_reducible assumption) (by decide) | exact room3 (by with_reducible assumption) (by decide) | omega)))
  (k_with "units" => ((try simp only [units_in1, units_deeper, Around.mark_units, units_caller]); (try dsimp only [ktrTop]); (first | exact room0 (by with_reducible assumption) | exact room1 (by with_reducible assumption) (by decide) | exact room2 (by with_reducible assumption) (by decide) | exact room3 (by with_reducible assumption) (by decide) | omega)))
  (k_with "ne" => (refine neN ?_; first | exact ne0 (by with_reducible assumption) | exact ne1 (by with_reducible assumption) | exact ne2 (by with_reducible assumption) | exact ne3 (by with_reducible assumption) | exact ne4 (by with_reducible assumption) | exact ne5 (by with_reducible assumption) | ((try dsimp only); omega)))
  (k_with "subscriptTail Name Constant ref int" => (k_here; k_dflt (refine item_listL (News.isList (by k_asm) (by k_mem)) (by decide) (by decide) (by exact rfl) ?_ (by with_unfolding_all rfl) (by intro _; with_unfolding_all rfl); k_whole)))
  (k_with "subscriptTail Name Name ref int" => (k_here; k_dflt (refine item_listL (News.isList (by k_asm) (by k_mem)) (by decide) (by decide) (by exact rfl) ?_ (by with_unfolding_all rfl) (by intro _; with_unfolding_all rfl); k_whole)))
  (k_with "call ref" => (k_here; (with_reducible show wpAny _ _ (call (Value.ref 347) [Value.ref _, Value.int _ _]) _ _ _); k_dflt (refine take_use (by k_asm) (by k_asm) (by k_asm) (by k_asm) (by k_asm) (by first | exact rfl | assumption) (by k_updF) (by assumption) (by first | decide | omega) (by first | decide | omega) (by ktr_room) (by ktr_units) ?_); intro r9 t9 o9 h9 tk9 hlo9 hhi9 hs9 F9 N9; (try dsimp only at N9 hhi9 ⊢); (try k_fold)))
  trivial
section
theorem split6n {P : Int → Prop} (h : ∀ i ∈ ([0, 1, 2, 3, 4, 5] : List Int), P i) : ∀ n : Nat, n < 6 → P (n : Int)
  | 0, _ => h _ (.head _)
  | 1, _ => h _ (.tail _ (.head _))
  | 2, _ => h _ (.tail _ (.tail _ (.head _)))
  | 3, _ => h _ (.tail _ (.tail _ (.tail _ (.head _))))
  | 4, _ => h _ (.tail _ (.tail _ (.tail _ (.tail _ (.head _)))))
  | 5, _ => h _ (.tail _ (.tail _ (.tail _ (.tail _ (.tail _ (.head _))))))
  | n + 6, h => absurd h (Nat.not_lt.mpr (Nat.le_add_left 6 n))
theorem split6 {P : Int → Prop} (h : ∀ i ∈ ([0, 1, 2, 3, 4, 5] : List Int), P i) : ∀ r, 0 ≤ r → r < 6 → P r := fun r h0 h1 => by
  have := split6n h r.toNat (by omega)
  rwa [Int.toNat_of_nonneg h0] at this
theorem four_mem {a b c d N : Int} {ta tb tc td : Tok} {v : Value} (h : v ∈ [Value.int a ta, .int b tb, .int c tc, .int d td]) (ha : 0 ≤ a ∧ a < N) (hb : 0 ≤ b ∧ b < N) (hc : 0 ≤ c ∧ c < N) (hd : 0 ≤ d ∧ d < N) : ∃ x t, v = .int x t ∧ 0 ≤ x ∧ x < N := by
  simp only [List.mem_cons, List.not_mem_nil, or_false] at h
  rcases h with rfl | rfl | rfl | rfl
  · exact ⟨_, _, rfl, ha.1, ha.2⟩
  · exact ⟨_, _, rfl, hb.1, hb.2⟩
  · exact ⟨_, _, rfl, hc.1, hc.2⟩
  · exact ⟨_, _, rfl, hd.1, hd.2⟩
theorem whole_mem {d : Int} {ta tb tc td : Tok} {v : Value} (h : v ∈ [Value.int 0 ta, .int 1 tb, .int 10 tc, .int d td]) (h0 : 0 ≤ d) (h1 : d < 10000) : ∃ x t, v = .int x t ∧ 0 ≤ x ∧ x < 10000 := four_mem h (by omega) (by omega) (by omega) (by omega)
theorem digit_mem {d : Int} {ta tb tc td : Tok} {v : Value} (h : v ∈ [Value.int 0 ta, .int 0 tb, .int 9 tc, .int d td]) (h0 : 0 ≤ d) (h1 : d < 10) : ∃ x t, v = .int x t ∧ 0 ≤ x ∧ x < 10 := four_mem h (by omega) (by omega) (by omega) (by omega)
theorem sub_lit {prog : Program} {w : World} {A : Around} {E : Value → Shared → Prop} {s : Shared} {a b c : Int} {t u : Tok} {Q : Value → Shared → Prop} (e : a - b = c) (h : Q (.int c s.toks) { s with toks := s.toks + 1 }) : wpAny (model prog w) A (binaryOp .Sub (.int a t) (.int b u)) Q E s := sub_int (e ▸ h)
theorem comp_drop {h₀ : Heap} {L I C D : Addr} {m : Str → Option Value} {s₁ : Shared} {oI oC oD : Obj} {S : List (Addr × Obj) → Prop} {rest : Value → List (Addr × Obj) → Prop} {y : Value} {h' : Heap} {tk : Nat} {q : Addr × Obj} {tail : List (Addr × Obj)}
    (F : Fr h₀ L h' m) (N : News h₀ L h' (q :: (I, oI) :: (C, oC) :: (D, oD) :: tail)) (off : LCg.Off3 I C D tail) (hS : S tail) (r : rest y tail) : LCg.CompEnd h₀ L m s₁ I oI C oC D oD S rest y { s₁ with heap := h', toks := tk } := .intro F N tail (fun p hp => List.mem_cons_of_mem _ hp) off hS r
theorem sum_le_of {l : List Nat} {B : Nat} (h : ∀ x ∈ l, x ≤ B) : l.sum ≤ l.length * B := by
  induction l with
  | nil => simp
  | cons a r ih =>
    have h1 := h a (.head _)
    have h2 := ih fun x hx => h x (.tail _ hx)
    simp only [List.sum_cons, List.length_cons, Nat.add_mul, Nat.one_mul]
    omega
theorem join_short {ys : List Str} (hy : ∀ y ∈ ys, y.length ≤ 10) (hn : ys.length ≤ 8) : (Txt.join (Str.ofString "") ys).length ≤ 80 ∧ (ys.map (·.length)).sum ≤ 80 := by
  have h2 : (ys.map (·.length)).sum ≤ 80 := by
    have := sum_le_of (l := ys.map (·.length)) (B := 10) (by intro x hx; obtain ⟨y, h1, rfl⟩ := List.mem_map.mp hx; exact hy y h1)
    rw [List.length_map] at this
    omega
  refine ⟨?_, h2⟩
  show (Builtin.Str.glued (Str.ofString "") ys).length ≤ 80
  rw [StrLaws.glued_eq_join]
  cases ys with
  | nil => exact Nat.zero_le _
  | cons a r =>
    have z : (Str.ofString "").length = 0 := by decide
    rw [len_join_cons, z]
    omega
theorem join_d {prog : Program} {w : World} {A : Around} {E : Value → Shared → Prop} {s : Shared} {D : Addr} {items : Array Value} {ys : List Str} {t : Tok} {Q : Value → Shared → Prop} (hl : s.heap.IsList D items) (hi : StrsAre items.toList ys) (hy : ∀ y ∈ ys, y.length ≤ 10) (hn : ys.length ≤ 8)
    (h : ∀ t' k, (Txt.join (Str.ofString "") ys).length ≤ 80 → Q (.str (Txt.join (Str.ofString "") ys) t') { s with toks := k }) : wpAny (model prog w) A (call (.builtin "str.join") [.str (Str.ofString "") t, .ref D]) Q E s := by
  obtain ⟨h1, h2⟩ := join_short hy hn
  have z : (Str.ofString "").length = 0 := by decide
  exact join_list hl hi (by rw [z]; omega) fun t' k => h t' k h1
theorem len_digit {d : Int} (h0 : 0 ≤ d) (h1 : d < 10) : (Str.ofString (toString d)).length ≤ 10 := KT.len_num h0 (by omega)
theorem Spec.mono {prog : Program} {w : World} {p : Program} {loose : List Str} {mean : ExcName → Option Value} {mg mb : Str → Option Value} {f : Addr} {vs : List Value} {news : List (Addr × Obj)} {dn un₀ : Nat} {P P' : Value → List (Addr × Obj) → Prop}
    (S : Spec prog w p loose mean mg mb f vs news dn un₀ P) (h : ∀ v nn, P v nn → P' v nn) : Spec prog w p loose mean mg mb f vs news dn un₀ P' := fun _ _ _ _ _ _ _ _ _ _ _ _ _ _ _ _ _ B F X N T hk hd hu ret => S _ _ _ _ _ _ _ _ _ _ _ _ _ _ _ _ _ B F X N T hk hd hu fun v n' h' tk' hp => ret v n' h' tk' (h _ _ hp)
theorem low_ten {prog : Program} {w : World} {pr : Program} {loose : List Str} {mean : ExcName → Option Value} {mg mb : Str → Option Value} {news : List (Addr × Obj)} {N b : Int} {ta tb : Tok} (p : Nat) (hb : b = 10 ^ p) (hp : p ≤ 5) (hN : 0 ≤ N ∧ N < 10000000000 ∧ (p = 0 ∨ N % 10 ≠ 0)) :
    Spec prog w pr loose mean mg mb 368 [.int N ta, .int b tb] news 2 400 (fun v nn => ∃ r t1 t2 n T B, v = .ref r ∧ nn = (r, ({ cls := .type "tuple", data := .seq [.int T t1, .int B t2].toArray n } : Obj)) :: news ∧ (∀ q ∈ news, q.1 < r) ∧ Shown T B (p : Int) N) := by
  have hb2 : 0 < b ∧ b < 1000000000000 := by
    subst hb
    exact (by decide : ∀ k : Fin 6, (0 : Int) < 10 ^ k.val ∧ (10 : Int) ^ k.val < 1000000000000) ⟨p, Nat.lt_succ_of_le hp⟩
  refine (lowest_spec hN.1 hb2.1 (by omega) hb2.2).mono fun v nn h => ?_
  obtain ⟨r, t1, t2, n, e1, e2, hlt⟩ := h
  exact ⟨r, t1, t2, n, _, _, e1, e2, hlt, low_shown hb hp hN.1 hN.2.1 hN.2.2⟩
theorem low_use {prog : Program} {w : World} {p : Program} {loose : List Str} {mean : ExcName → Option Value} {mg mb : Str → Option Value} {news : List (Addr × Obj)} {V b : Int} {ta tb : Tok} (k : Nat) {dp un : Nat} {gd : Option (List Code)} {cn : Str} {cs : Scope} {a : Addr} {ccd : Value} {cl : List (Str × Addr)} {outer : List Env} {A₀ : Around} {base h₀ : Heap} {L : Addr} {m : Str → Option Value} {s : Shared} {Q E : Value → Shared → Prop}
    (B : Below A₀ base outer h₀) (F : Fr h₀ L s.heap m) (X : (hd.heap_39 w.params).In h₀) (N : News h₀ L s.heap news) (T : Top p loose mean mg mb h₀) (hk : cs.kind = .function) (hb : b = 10 ^ k) (hp : k ≤ 5) (hN : 0 ≤ V ∧ V < 10000000000 ∧ (k = 0 ∨ V % 10 ≠ 0)) (hdp : dp + 2 < recursionLimit) (hun : un + 400 < cLine)
    (ret : ∀ (r : Addr) (t1 t2 : Tok) (n : Nat) (T B : Int) (h' : Heap) (tk' : Nat), (∀ q ∈ news, q.1 < r) → Shown T B (k : Int) V → Fr h₀ L h' m → News h₀ L h' ((r, ({ cls := .type "tuple", data := .seq [.int T t1, .int B t2].toArray n } : Obj)) :: news) → Q (.ref r) { s with heap := h', toks := tk' }) :
    wpAny (model prog w) (ktrTop dp un gd cn cs L a ccd cl outer) (call (.ref 368) [.int V ta, .int b tb]) Q E s := Spec.use (low_ten k hb hp hN) B F X N T hk hdp hun fun v nn h' tk' hp F' N' => by
  obtain ⟨r, t1, t2, n, T, B, e, e2, a1, a2⟩ := hp
  subst e; subst e2; exact ret r t1 t2 n T B h' tk' a1 a2 F' N'
theorem wok_use {prog : Program} {w : World} {p : Program} {loose : List Str} {mean : ExcName → Option Value} {mg mb : Str → Option Value} {news : List (Addr × Obj)} {r : Addr} {n : Nat} {t1 t2 : Tok} {T' B' K V : Int} {dp un : Nat} {gd : Option (List Code)} {cn : Str} {cs : Scope} {a : Addr} {ccd : Value} {cl : List (Str × Addr)} {outer : List Env} {A₀ : Around} {base h₀ : Heap} {L : Addr} {m : Str → Option Value} {s : Shared} {Q E : Value → Shared → Prop}
    (B : Below A₀ base outer h₀) (F : Fr h₀ L s.heap m) (X : (hd.heap_39 w.params).In h₀) (N : News h₀ L s.heap news) (T : Top p loose mean mg mb h₀) (hk : cs.kind = .function) (hr : (r, ({ cls := .type "tuple", data := .seq [.int T' t1, .int B' t2].toArray n } : Obj)) ∈ news) (hS : Shown T' B' K V) (hdp : dp + 4 < recursionLimit) (hun : un + 400 < cLine)
    (ret : ∀ (t : Tok) (h' : Heap) (tk' : Nat), Fr h₀ L h' m → News h₀ L h' (news) → Q (.str (decT V K) t) { s with heap := h', toks := tk' }) :
    wpAny (model prog w) (ktrTop dp un gd cn cs L a ccd cl outer) (call (.ref 375) [.ref r]) Q E s := Spec.use (written_ok hr hS) B F X N T hk hdp hun fun v nn h' tk' hp F' N' => by
  obtain ⟨⟨t, e⟩, e2⟩ := hp
  subst e; subst e2; exact ret t h' tk' F' N'
theorem pow_lit {prog : Program} {w : World} {A : Around} {E : Value → Shared → Prop} {s : Shared} {n c : Int} {t u : Tok} {Q : Value → Shared → Prop} (e : (10 : Int) ^ n.toNat = c) (h0 : 0 ≤ n) (h1 : n ≤ 1000000) (h : Q (.int c s.toks) { s with toks := s.toks + 1 }) : wpAny (model prog w) A (binaryOp .Pow (.int 10 t) (.int n u)) Q E s := pow_int_small h0 h1 (by decide) (e ▸ h)
theorem true_of {b : Bool} (h : b = true) : Value.bool b = .bool true := by rw [h]
theorem dec_1 {N x l  : Int} (hx : 0 ≤ x)  (hl0 : 0 ≤ l) (hl1 : l < 9) (hN : N = 10 * x + (1 + l)) : (decT N ((1 : Nat) : Int) == Str.ofString (toString x) ++ Str.ofString "." ++ Txt.join (Str.ofString "") [] ++ Str.ofString (toString (1 + l))) = true :=
  dec_eq (ds := []) hx (List.forall_mem_nil _) hl0 hl1 hN
theorem dec_1e {N x l : Int} (hx : 0 ≤ x) (hl0 : 0 ≤ l) (hl1 : l < 9) (hN : N = 10 * x + (1 + l)) : (decT N ((1 : Nat) : Int) == Str.ofString (toString x) ++ Str.ofString "." ++ Str.ofString "" ++ Str.ofString (toString (1 + l))) = true := by
  have e : Str.ofString "" = Txt.join (Str.ofString "") [] := by decide +kernel
  conv => lhs; rhs; lhs; rhs; rw [e]
  exact dec_1 hx hl0 hl1 hN
theorem dec_2 {N x l d1 : Int} (hx : 0 ≤ x) (h1 : 0 ≤ d1 ∧ d1 < 10) (hl0 : 0 ≤ l) (hl1 : l < 9) (hN : N = 10 * (10 * x + d1) + (1 + l)) : (decT N ((2 : Nat) : Int) == Str.ofString (toString x) ++ Str.ofString "." ++ Txt.join (Str.ofString "") [Str.ofString (toString d1)] ++ Str.ofString (toString (1 + l))) = true :=
  dec_eq (ds := [d1]) hx (List.forall_mem_cons.mpr ⟨h1, List.forall_mem_nil _⟩) hl0 hl1 hN
theorem dec_3 {N x l d1 d2 : Int} (hx : 0 ≤ x) (h1 : 0 ≤ d1 ∧ d1 < 10) (h2 : 0 ≤ d2 ∧ d2 < 10) (hl0 : 0 ≤ l) (hl1 : l < 9) (hN : N = 10 * (10 * (10 * x + d1) + d2) + (1 + l)) : (decT N ((3 : Nat) : Int) == Str.ofString (toString x) ++ Str.ofString "." ++ Txt.join (Str.ofString "") [Str.ofString (toString d1), Str.ofString (toString d2)] ++ Str.ofString (toString (1 + l))) = true :=
  dec_eq (ds := [d1, d2]) hx (List.forall_mem_cons.mpr ⟨h1, List.forall_mem_cons.mpr ⟨h2, List.forall_mem_nil _⟩⟩) hl0 hl1 hN
theorem dec_4 {N x l d1 d2 d3 : Int} (hx : 0 ≤ x) (h1 : 0 ≤ d1 ∧ d1 < 10) (h2 : 0 ≤ d2 ∧ d2 < 10) (h3 : 0 ≤ d3 ∧ d3 < 10) (hl0 : 0 ≤ l) (hl1 : l < 9) (hN : N = 10 * (10 * (10 * (10 * x + d1) + d2) + d3) + (1 + l)) : (decT N ((4 : Nat) : Int) == Str.ofString (toString x) ++ Str.ofString "." ++ Txt.join (Str.ofString "") [Str.ofString (toString d1), Str.ofString (toString d2), Str.ofString (toString d3)] ++ Str.ofString (toString (1 + l))) = true :=
  dec_eq (ds := [d1, d2, d3]) hx (List.forall_mem_cons.mpr ⟨h1, List.forall_mem_cons.mpr ⟨h2, List.forall_mem_cons.mpr ⟨h3, List.forall_mem_nil _⟩⟩⟩) hl0 hl1 hN
theorem dec_5 {N x l d1 d2 d3 d4 : Int} (hx : 0 ≤ x) (h1 : 0 ≤ d1 ∧ d1 < 10) (h2 : 0 ≤ d2 ∧ d2 < 10) (h3 : 0 ≤ d3 ∧ d3 < 10) (h4 : 0 ≤ d4 ∧ d4 < 10) (hl0 : 0 ≤ l) (hl1 : l < 9) (hN : N = 10 * (10 * (10 * (10 * (10 * x + d1) + d2) + d3) + d4) + (1 + l)) : (decT N ((5 : Nat) : Int) == Str.ofString (toString x) ++ Str.ofString "." ++ Txt.join (Str.ofString "") [Str.ofString (toString d1), Str.ofString (toString d2), Str.ofString (toString d3), Str.ofString (toString d4)] ++ Str.ofString (toString (1 + l))) = true :=
  dec_eq (ds := [d1, d2, d3, d4]) hx (List.forall_mem_cons.mpr ⟨h1, List.forall_mem_cons.mpr ⟨h2, List.forall_mem_cons.mpr ⟨h3, List.forall_mem_cons.mpr ⟨h4, List.forall_mem_nil _⟩⟩⟩⟩) hl0 hl1 hN
theorem log_small {a : Int} (h0 : 0 ≤ a) (h1 : a < 10000) : a.natAbs.log2 < 1920 := shown (N := 2 ^ 1920) (by omega) (by omega) (Int.le_refl _)
theorem log_digit {a : Int} (h0 : 0 ≤ a) (h1 : a < 10) : a.natAbs.log2 < 1920 := log_small h0 (by omega)
theorem log_last {a : Int} (h0 : 0 ≤ a) (h1 : a < 9) : (1 + a).natAbs.log2 < 1920 := log_small (by omega) (by omega)
section
theorem rows_c21_9 : True := by
  (k_with "kt_item" => (first | exact List.forall_mem_nil _ | (refine List.forall_mem_cons.mpr ⟨len_digit (by with_reducible assumption) (by with_reducible assumption), ?_⟩; kt_item)))
  (k_with "exec For Name Name cons nil" => (k_here; (rename Fr _ _ _ _ => lF'); (with_unfolding_all refine' For_turns lF' ?_; k_whole); walk1; (rename News _ _ _ _ => lN'); (with_unfolding_all refine iter_listTurns (lo := LCg.lst []) (vs := []) (n := 0) (by rfl) lF' lN' (by k_mem) (by rfl) (by rfl) ?_); intro i' l1; (try k_lt l1)))
  (k_with "call builtin:str.join" => (k_here; (refine join_d (News.isList (by k_asm) (by k_mem)) (by first | exact .nil | exact .cons _ _ .nil | exact .cons _ _ (.cons _ _ .nil) | exact .cons _ _ (.cons _ _ (.cons _ _ .nil)) | exact .cons _ _ (.cons _ _ (.cons _ _ (.cons _ _ .nil)))) (by kt_item) (by exact Nat.le_of_ble_eq_true rfl) ?_); intro _ _ _))
  (k_with "CompEnd" => ((refine comp_drop (by k_asm) (by k_asm) (by ((simp only [LCg.Off3, and_true]); assumption)) True.intro ?_)))
  (k_with "CompSrc" => (k_here; k_dflt (refine LCg.CompSrc.range (by rfl) (by k_asm) (by k_asm) (by assumption) (by first | decide | rfl) (by first | rfl | decide) (by first | size_fits | exact Nat.le_of_ble_eq_true rfl) ?_; intro g'; lcg_lit)))
  (k_with "binaryOp Sub int int" => (k_here; first | refine sub_lit (c := 0) (by decide) ?_ | refine sub_lit (c := 1) (by decide) ?_ | refine sub_lit (c := 2) (by decide) ?_ | refine sub_lit (c := 3) (by decide) ?_ | refine sub_lit (c := 4) (by decide) ?_))
  (k_with "call type:str" => (k_here; first | refine P.str_of_int (log_small (by with_reducible assumption) (by with_reducible assumption)) ?_ | refine P.str_of_int (log_digit (by with_reducible assumption) (by with_reducible assumption)) ?_ | refine P.str_of_int (log_last (by with_reducible assumption) (by with_reducible assumption)) ?_))
  (k_with "call ref" => (k_here; (with_reducible show wpAny _ _ (call (Value.ref 347) [Value.ref _, Value.int 6 _]) _ _ _); k_dflt (refine take_use (by k_asm) (by k_asm) (by k_asm) (by k_asm) (by k_asm) (by first | exact rfl | assumption) (by k_updF) (by assumption) (by first | decide | omega) (by first | decide | omega) (by ktr_room) (by ktr_units) ?_); intro r9 t9 o9 h9 tk9 hlo9 hhi9 hs9 F9 N9; revert r9; refine split6 ?_; (repeat' (first | exact List.forall_mem_nil _ | refine List.forall_mem_cons.mpr ⟨?_, ?_⟩)); all_goals ((try dsimp only at N9 ⊢); (try k_fold))))
  (k_with "call ref" => (k_here; (with_reducible show wpAny _ _ (call (Value.ref 354) [Value.ref _, Value.ref _]) _ _ _); k_dflt (refine one_use (by k_asm) (by k_asm) (by k_asm) (by k_asm) (by k_asm) (by first | exact rfl | assumption) (by k_updF) (by assumption) (by k_mem) (by k_ne) (by exact Nat.zero_lt_succ _) (by exact Nat.le_of_ble_eq_true rfl) (by ktr_room) (by ktr_units) ?_); intro v9 o9 h9 tk9 hm9 hs9 F9 N9; (first | (obtain ⟨x9, t9, e9, hlo9, hhi9⟩ := digit_mem hm9 (by assumption) (by assumption)) | (obtain ⟨x9, t9, e9, hlo9, hhi9⟩ := whole_mem hm9 (by assumption) (by assumption))); clear hm9; subst e9; (try dsimp only at N9 ⊢); (try k_fold)))
  (k_with "call ref" => (k_here; (with_reducible show wpAny _ _ (call (Value.ref 368) [Value.int _ _, Value.int _ _]) _ _ _); k_dflt (first
  | (refine low_use 0 (by k_asm) (by k_asm) (by k_asm) (by k_asm) (by k_asm) (by first | exact rfl | assumption) (by decide) (by decide) (by (refine ⟨by omega, by omega, ?_⟩; first | exact Or.inl rfl | exact Or.inr (by omega))) (by ktr_room) (by ktr_units) ?_)
  | (refine low_use 1 (by k_asm) (by k_asm) (by k_asm) (by k_asm) (by k_asm) (by first | exact rfl | assumption) (by decide) (by decide) (by (refine ⟨by omega, by omega, ?_⟩; first | exact Or.inl rfl | exact Or.inr (by omega))) (by ktr_room) (by ktr_units) ?_)
  | (refine low_use 2 (by k_asm) (by k_asm) (by k_asm) (by k_asm) (by k_asm) (by first | exact rfl | assumption) (by decide) (by decide) (by (refine ⟨by omega, by omega, ?_⟩; first | exact Or.inl rfl | exact Or.inr (by omega))) (by ktr_room) (by ktr_units) ?_)
  | (refine low_use 3 (by k_asm) (by k_asm) (by k_asm) (by k_asm) (by k_asm) (by first | exact rfl | assumption) (by decide) (by decide) (by (refine ⟨by omega, by omega, ?_⟩; first | exact Or.inl rfl | exact Or.inr (by omega))) (by ktr_room) (by ktr_units) ?_)
  | (refine low_use 4 (by k_asm) (by k_asm) (by k_asm) (by k_asm) (by k_asm) (by first | exact rfl | assumption) (by decide) (by decide) (by (refine ⟨by omega, by omega, ?_⟩; first | exact Or.inl rfl | exact Or.inr (by omega))) (by ktr_room) (by ktr_units) ?_)
  | (refine low_use 5 (by k_asm) (by k_asm) (by k_asm) (by k_asm) (by k_asm) (by first | exact rfl | assumption) (by decide) (by decide) (by (refine ⟨by omega, by omega, ?_⟩; first | exact Or.inl rfl | exact Or.inr (by omega))) (by ktr_room) (by ktr_units) ?_)); intro r9 t91 t92 n92 T9 B9 h9 tk9 hlt9 hsh9 F9 N9; (try dsimp only at N9 ⊢); (try k_fold)))
  (k_with "call ref" => (k_here; (with_reducible show wpAny _ _ (call (Value.ref 375) [Value.ref _]) _ _ _); k_dflt (refine wok_use (by k_asm) (by k_asm) (by k_asm) (by k_asm) (by k_asm) (by first | exact rfl | assumption) (by k_mem) (by assumption) (by ktr_room) (by ktr_units) ?_); intro t9 h9 tk9 F9 N9; (try dsimp only at N9 ⊢); (try k_fold)))
  (k_with "binaryOp Pow int int" => (k_here; first | refine pow_lit (c := 1) (by decide) (by decide) (by decide) ?_ | refine pow_lit (c := 10) (by decide) (by decide) (by decide) ?_ | refine pow_lit (c := 100) (by decide) (by decide) (by decide) ?_ | refine pow_lit (c := 1000) (by decide) (by decide) (by decide) ?_ | refine pow_lit (c := 10000) (by decide) (by decide) (by decide) ?_ | refine pow_lit (c := 100000) (by decide) (by decide) (by decide) ?_))
  (k_with "tb" => (first
  | (with_reducible refine dec_eq0 ?_; omega)
  | (with_reducible refine dec_1 (by assumption)  (by assumption) (by assumption) ?_; omega)
  | (with_reducible refine dec_1e (by assumption) (by assumption) (by assumption) ?_; omega)
  | (with_reducible refine dec_2 (by assumption) ⟨by assumption, by assumption⟩ (by assumption) (by assumption) ?_; omega)
  | (with_reducible refine dec_3 (by assumption) ⟨by assumption, by assumption⟩ ⟨by assumption, by assumption⟩ (by assumption) (by assumption) ?_; omega)
  | (with_reducible refine dec_4 (by assumption) ⟨by assumption, by assumption⟩ ⟨by assumption, by assumption⟩ ⟨by assumption, by assumption⟩ (by assumption) (by assumption) ?_; omega)
  | (with_reducible refine dec_5 (by assumption) ⟨by assumption, by assumption⟩ ⟨by assumption, by assumption⟩ ⟨by assumption, by assumption⟩ ⟨by assumption, by assumption⟩ (by assumption) (by assumption) ?_; omega)))
  trivial
set_option maxHeartbeats 3000000 in
theorem dec_spec {prog : Program} {w : World} {p : Program} {loose : List Str} {mean : ExcName → Option Value} {mg mb : Str → Option Value} {src : Addr} {o : Obj} {news : List (Addr × Obj)} {g : Obj → List (Addr × Obj)}
    (U : UpdF src o news g) (ho : SrcOk o) :
    Spec prog w p loose mean mg mb 380 [.ref src] news 8 600 (fun v nn => v = .bool true ∧ ∃ o', (src, o') ∈ nn ∧ SrcOk o' ∧ (∀ q ∈ news, q.1 ≠ src → q ∈ nn)) := by
  obtain ⟨pre, post, rfl, hg, hpre, hpost⟩ := U.split
  clear U
  have hap := apart hpre hpost
  intro dp un gd cn cs a ccd cl outer A₀ base h₀ L m s Q E B F X N T hk hd hu hret
  replace N := news_perm N to_front
  have hin : ∀ {nn : List (Addr × Obj)}, (∀ q ∈ pre ++ post, q ∈ nn) → ∀ q ∈ pre ++ (src, o) :: post, q.1 ≠ src → q ∈ nn := rest_in
  generalize hrest : pre ++ post = rest at hap N hin
  refine wpAny_call ?_
  k_dflt (refine' code_defC ?k1 ?k2 ?k3 ?k4 ?k5 ?kA ?kF ?kK ?k6 ?k7 ?k8 ?k9 ?kB ?kD ?_ ?c2 ?c3 ?c4; (case kA => exact rfl); (case kF => exact rfl); (case kK => assumption); (case k1 => k_asm); (case k2 => k_asm); (case k3 => k_asm); (case k4 => k_asm); (case k5 => k_asm); (case k6 => k_is); (case k7 => k_is); (case k8 => ktr_room); (case k9 => exact BindsTo.of_eq rfl); (case kB => exact rfl); (case kD => decide +kernel); (case c2 => exact rfl); (case c3 => exact rfl); (case c4 => exact rfl); k_whole; intro g' L' h' tk' cells' FG' F' N' Y' B' X' T' l1; (try k_lt l1); k_cells Y'; (try simp only [List.cons_append, List.nil_append] at N'); (try dsimp only); (try k_lift B'); (try k_fold))
  repeat' (first | (k_unfold; (try dsimp only)) | ((fail_if_success (with_reducible show Q _ _)); first | walk1 | (dsimp only; walk1) | (leave1; walk_say "STEP leave1"; (try dsimp only))))
  all_goals refine hret _ _ _ _ ?_ (by k_asm) (by k_asm)
  all_goals refine ⟨true_of ?_, _, by k_mem, by assumption, hin (by intro q hq; repeat (first | exact hq | refine List.mem_cons_of_mem _ ?_))⟩
  all_goals k_extra "tb"
end
end
end
theorem rows_c22 : True := by
  k_with_none
  (k_with "ite" => first | with_reducible refine ite_tt ?_ | with_reducible refine ite_ff ?_)
  (k_with "mem" => first | with_reducible assumption | ((fail_if_success (refine' List.Mem.tail _ ?_)); assumption))
  (k_with "room" => ((try simp only [depth_mark, depth_under_make, depth_under_kw, depth_in1, depth_deeper, depth_caller]); (try dsimp only [ktrTop]); (first | exact room0 (by with_reducible assumption) | exact room1 (by with_reducible assumption) (by decide) | exact room2 (by with_reducible assumption) (by decide) | exact room3 (by with_reducible assumption) (by decide) | omega)))
  (k_with "units" => ((try simp only [units_in1, units_deeper, Around.mark_units, units_caller]); (try dsimp only [ktrTop]); (first | exact room0 (by with_reducible assumption) | exact room1 (by with_reducible assumption) (by decide) | exact room2 (by with_reducible assumption) (by decide) | exact room3 (by with_reducible assumption) (by decide) | omega)))
  (k_with "ne" => (refine neN ?_; first | exact ne0 (by with_reducible assumption) | exact ne1 (by with_reducible assumption) | exact ne2 (by with_reducible assumption) | exact ne3 (by with_reducible assumption) | exact ne4 (by with_reducible assumption) | exact ne5 (by with_reducible assumption) | ((try dsimp only); omega)))
  (k_with "subscriptTail Name Constant ref int" => (k_here; k_dflt (refine item_listL (News.isList (by k_asm) (by k_mem)) (by decide) (by decide) (by exact rfl) ?_ (by with_unfolding_all rfl) (by intro _; with_unfolding_all rfl); k_whole)))
  (k_with "subscriptTail Name Name ref int" => (k_here; k_dflt (refine item_listL (News.isList (by k_asm) (by k_mem)) (by decide) (by decide) (by exact rfl) ?_ (by with_unfolding_all rfl) (by intro _; with_unfolding_all rfl); k_whole)))
  (k_with "call ref" => (k_here; (with_reducible show wpAny _ _ (call (Value.ref 347) [Value.ref _, Value.int _ _]) _ _ _); k_dflt (refine take_use (by k_asm) (by k_asm) (by k_asm) (by k_asm) (by k_asm) (by first | exact rfl | assumption) (by k_updF) (by assumption) (by first | decide | omega) (by first | decide | omega) (by ktr_room) (by ktr_units) ?_); intro r9 t9 o9 h9 tk9 hlo9 hhi9 hs9 F9 N9; (try dsimp only at N9 hhi9 ⊢); (try k_fold)))
  (k_with "kts_go" => (first
  | (apply code_defS0; (case hA => exact rfl); (case F => k_asm); (case B => k_asm); (case X₀ => k_asm); (case N => k_asm); (case T => k_asm); (case ho => k_is); (case hcd => k_is); (case hroom => ktr_room); (case hbind => exact BindsTo.of_eq rfl); (case hloc => exact locs rfl); (case hck => assumption); (case hco => exact rfl); (case hgen => exact rfl); (case hk => exact rfl); (case hcell => decide); k_whole; intro g' L' h' FG' F' N' B' X' T' D'; (try dsimp only); (try k_lift B'); (try k_fold))
  | (apply code_defS; (case hA => exact rfl); (case F => k_asm); (case B => k_asm); (case XB => assumption); (case TB => assumption); (case D => assumption); (case T0 => first | assumption | exact KtsTurn.refl); (case X₀ => k_asm); (case N => k_asm); (case T => k_asm); (case ho => k_is); (case hcd => k_is); (case hroom => ktr_room); (case hbind => exact BindsTo.of_eq rfl); (case hloc => exact locs rfl); (case hck => first | assumption | exact rfl); (case hco => exact rfl); (case hgen => exact rfl); (case hk => exact rfl); (case hcell => decide); k_whole; intro g' L' h' FG' F' N' B' X' T' D'; (try dsimp only); (try k_lift B'); (try k_fold))))
  trivial
section
theorem no_ten' {b k : Int} (hb : b = 10 ^ k.toNat) (hk : 400 < k) : ∀ j : Int, 0 ≤ j → j ≤ 400 → ((1 : Int) * 10 ^ j.toNat).fmod b ≠ 0 := hb ▸ no_ten hk
theorem no_two' {b k : Int} (hb : b = 2 ^ k.toNat) (hk : 400 < k) : ∀ j : Int, 0 ≤ j → j ≤ 400 → ((7 : Int) * 10 ^ j.toNat).fmod b ≠ 0 := hb ▸ no_two hk
theorem ten_pos {b k : Int} (hb : b = 10 ^ k.toNat) : 0 < b := hb ▸ big_pos (by decide)
theorem two_pos {b k : Int} (hb : b = 2 ^ k.toNat) : 0 < b := hb ▸ big_pos (by decide)
theorem ten_ne {b k : Int} (hb : b = 10 ^ k.toNat) (hk : 0 < k) : b ≠ 1 := hb ▸ big_ne (by decide) hk
theorem two_ne {b k : Int} (hb : b = 2 ^ k.toNat) (hk : 0 < k) : b ≠ 1 := hb ▸ big_ne (by decide) hk
theorem shown_far' {b k : Int} (hb : b = 10 ^ k.toNat) (h0 : 0 < k) (hk : k ≤ 400) : Shown 1 b k 1 := hb ▸ shown_far h0 hk
theorem pow_var {prog : Program} {w : World} {A : Around} {E : Value → Shared → Prop} {s : Shared} {b n : Int} {t u : Tok} {Q : Value → Shared → Prop} (h0 : 0 ≤ n) (h1 : n ≤ 1000000) (hb : b.natAbs < 2 ^ 64) (h : ∀ c, c = b ^ n.toNat → Q (.int c s.toks) { s with toks := s.toks + 1 }) : wpAny (model prog w) A (binaryOp .Pow (.int b t) (.int n u)) Q E s := pow_int_small h0 h1 hb (h _ rfl)
theorem SpecR.use {prog : Program} {w : World} {p : Program} {loose : List Str} {mean : ExcName → Option Value} {mg mb : Str → Option Value} {f : Addr} {vs : List Value} {news : List (Addr × Obj)} {dn un₀ : Nat} {Post : Value → List (Addr × Obj) → Prop}
    (S : SpecR prog w p loose mean mg mb f vs news dn un₀ Post) {dp un : Nat} {gd : Option (List Code)} {cn : Str} {cs : Scope} {a : Addr} {ccd : Value} {outer : List Env} {A₀ : Around} {base h₀ g₀ : Heap} {L : Addr} {m : Str → Option Value} {s : Shared} {Q E : Value → Shared → Prop}
    (B : Below A₀ base outer h₀) (F : Fr h₀ L s.heap m) (X : (hd.heap_39 w.params).In h₀) (N : News h₀ L s.heap news) (T : Top p loose mean mg mb h₀) (XB : (hd.heap_39 w.params).In base) (TB : Top p loose mean mg mb base) (D : KtsDicts (outer.filterMap (·.frame)) h₀) (T0 : KtsTurn (outer.filterMap (·.frame)) g₀ h₀) (hk : cs.kind = .function) (hdp : dp + dn < recursionLimit) (hu : un + un₀ < cLine)
    (ret : ∀ (v : Value) (news' : List (Addr × Obj)) (h' : Heap) (tk' : Nat) (h₁ : Heap), Post v news' → KtsTurn (outer.filterMap (·.frame)) g₀ h₁ → Fr h₁ L h' m → News h₁ L h' news' → Below A₀ base outer h₁ → (hd.heap_39 w.params).In h₁ → Top p loose mean mg mb h₁ → KtsDicts (outer.filterMap (·.frame)) h₁ → Q v { s with heap := h', toks := tk' }) :
    wpAny (model prog w) (ktrTop dp un gd cn cs L a ccd [] outer) (call (.ref f) vs) Q E s := S _ _ _ _ _ _ _ _ _ _ _ _ _ _ _ _ _ B F X N T XB TB D T0 hk hdp hu ret
theorem SpecR.use2 {prog : Program} {w : World} {p : Program} {loose : List Str} {mean : ExcName → Option Value} {mg mb : Str → Option Value} {f : Addr} {vs : List Value} {news : List (Addr × Obj)} {dn un₀ : Nat} {Post : Value → List (Addr × Obj) → Prop} {dp un : Nat} {gd : Option (List Code)} {cn : Str} {cs : Scope} {a : Addr} {ccd : Value} {outer : List Env} {A₀ : Around} {base h₀ g₀ : Heap} {L : Addr} {m : Str → Option Value} {s : Shared} {Q E : Value → Shared → Prop}
    (B : Below A₀ base outer h₀) (F : Fr h₀ L s.heap m) (X : (hd.heap_39 w.params).In h₀) (N : News h₀ L s.heap news) (T : Top p loose mean mg mb h₀) (XB : (hd.heap_39 w.params).In base) (TB : Top p loose mean mg mb base) (D : KtsDicts (outer.filterMap (·.frame)) h₀) (T0 : KtsTurn (outer.filterMap (·.frame)) g₀ h₀) (hk : cs.kind = .function) (S : SpecR prog w p loose mean mg mb f vs news dn un₀ Post) (hdp : dp + dn < recursionLimit) (hu : un + un₀ < cLine)
    (ret : ∀ (v : Value) (news' : List (Addr × Obj)) (h' : Heap) (tk' : Nat) (h₁ : Heap), Post v news' → KtsTurn (outer.filterMap (·.frame)) g₀ h₁ → Fr h₁ L h' m → News h₁ L h' news' → Below A₀ base outer h₁ → (hd.heap_39 w.params).In h₁ → Top p loose mean mg mb h₁ → KtsDicts (outer.filterMap (·.frame)) h₁ → Q v { s with heap := h', toks := tk' }) :
    wpAny (model prog w) (ktrTop dp un gd cn cs L a ccd [] outer) (call (.ref f) vs) Q E s := S _ _ _ _ _ _ _ _ _ _ _ _ _ _ _ _ _ B F X N T XB TB D T0 hk hdp hu ret
section
theorem rows_c22_10 : True := by
  (k_with "binaryOp Pow int int" => (k_here; refine pow_var ?_ ?_ ?_ ?_; decide; decide; decide; intro c9 hc9))
  (k_with "call ref" => (k_here; (with_reducible show wpAny _ _ (call (Value.ref 354) [Value.ref _, Value.ref _]) _ _ _); k_dflt (refine one_use (by k_asm) (by k_asm) (by k_asm) (by k_asm) (by k_asm) (by first | exact rfl | assumption) (by k_updF) (by assumption) (by k_mem) (by k_ne) (by exact Nat.zero_lt_succ _) (by exact Nat.le_of_ble_eq_true rfl) (by ktr_room) (by ktr_units) ?_); intro v9 o9 h9 tk9 hm9 hs9 F9 N9; revert v9; (repeat' (first | exact List.forall_mem_nil _ | refine List.forall_mem_cons.mpr ⟨?_, ?_⟩)); all_goals ((try dsimp only at N9 ⊢); (try k_fold))))
  (k_with "call ref" => (k_here; (with_reducible show wpAny _ _ (call (Value.ref 375) [Value.ref _]) _ _ _); k_dflt (refine SpecR.use2 (by k_asm) (by k_asm) (by k_asm) (by k_asm) (by k_asm) (by assumption) (by assumption) (by assumption) (by exact KtsTurn.refl) (by first | exact rfl | assumption) (written_long (by k_mem) (by decide) (by decide) (by first | decide | exact ten_pos (by assumption) | exact two_pos (by assumption)) (by first | decide | exact ten_ne (by assumption) (by decide) | exact two_ne (by assumption) (by decide)) (by first | exact no_third | exact no_seventh | exact no_ten' (by assumption) (by decide) | exact no_two' (by assumption) (by decide))) (by ktr_room) (by ktr_units) ?_); intro v9 n9 h9 tk9 g9 hp9 T9 F9 N9 K9 X9 P9 D9; obtain ⟨⟨t9, e9⟩, e8⟩ := hp9; subst e9; subst e8; (try k_lift K9); (try k_sweep); (try k_fold)))
  (k_with "call ref" => (k_here; (with_reducible show wpAny _ _ (call (Value.ref 375) [Value.ref _]) _ _ _); k_dflt (refine Spec.use2 (by k_asm) (by k_asm) (by k_asm) (by k_asm) (by k_asm) (by first | exact rfl | assumption) (written_ok (by k_mem) (by exact shown_far' (by assumption) (by decide) (by decide))) (by ktr_room) (by ktr_units) ?_); intro v9 n9 h9 tk9 hp9 F9 N9; obtain ⟨⟨t9, e9⟩, e8⟩ := hp9; subst e9; subst e8; (try dsimp only at N9 ⊢); (try k_fold)))
  (k_with "call ref" => (k_here; (with_reducible show wpAny _ _ (call (Value.ref 375) [Value.ref _]) _ _ _); k_dflt (refine SpecR.use2 (by k_asm) (by k_asm) (by k_asm) (by k_asm) (by k_asm) (by assumption) (by assumption) (by assumption) (by exact KtsTurn.refl) (by first | exact rfl | assumption) (written_bad (by k_mem) (by first | exact Or.inl (by decide) | exact Or.inr (by decide))) (by ktr_room) (by ktr_units) ?_); intro v9 n9 h9 tk9 g9 hp9 T9 F9 N9 K9 X9 P9 D9; obtain ⟨⟨t9, e9⟩, e8⟩ := hp9; subst e9; subst e8; (try k_lift K9); (try k_sweep); (try k_fold)))
  trivial
set_option maxHeartbeats 3000000 in
theorem far_spec {prog : Program} {w : World} {p : Program} {loose : List Str} {mean : ExcName → Option Value} {mg mb : Str → Option Value} {src : Addr} {o : Obj} {news : List (Addr × Obj)} {g : Obj → List (Addr × Obj)}
    (U : UpdF src o news g) (ho : SrcOk o) :
    SpecT prog w p loose mean mg mb 387 [.ref src] news 12 600 (fun v nn => v = .bool true) := by
  obtain ⟨pre, post, rfl, hg, hpre, hpost⟩ := U.split
  clear U
  have hap := apart hpre hpost
  intro dp un gd cn cs a ccd A₀ base h₀ L m s Q E B F X N T XB TB hk hd hu hret
  replace N := news_perm N to_front
  generalize hrest : pre ++ post = rest at hap N
  refine wpAny_call ?_
  kts_go
  repeat' (first | (k_unfold; (try dsimp only)) | ((fail_if_success (with_reducible show Q _ _)); first | walk1 | (dsimp only; walk1) | (leave1; walk_say "STEP leave1"; (try dsimp only))))
  all_goals refine hret _ [] _ _ ?_ (by k_asm) (fun _ h => nomatch h)
  all_goals refine true_of ?_
  all_goals first
    | with_reducible exact beq_self_eq_true _
    | (with_reducible refine dec_far ?_ ?_ <;> decide)
end
end
theorem rows_c23 : True := by
  k_with_none
  (k_with "ite" => first | with_reducible refine ite_tt ?_ | with_reducible refine ite_ff ?_)
  (k_with "mem" => first | with_reducible assumption | ((fail_if_success (refine' List.Mem.tail _ ?_)); assumption))
  (k_with "room" => ((try simp only [depth_mark, depth_under_make, depth_under_kw, depth_in1, depth_deeper, depth_caller]); (try dsimp only [ktrTop]); (first | exact room0 (by with_reducible assumption) | exact room1 (by with_reducible assumption) (by decide) | exact room2 (by with_reducible assumption) (by decide) | exact room3 (by with_reducible assumption) (by decide) | omega)))
  (k_with "units" => ((try simp only [units_in1, units_deeper, Around.mark_units, units_caller]); (try dsimp only [ktrTop]); (first | exact room0 (by with_reducible assumption) | exact room1 (by with_reducible assumption) (by decide) | exact room2 (by with_reducible assumption) (by decide) | exact room3 (by with_reducible assumption) (by decide) | omega)))
  (k_with "ne" => (refine neN ?_; first | exact ne0 (by with_reducible assumption) | exact ne1 (by with_reducible assumption) | exact ne2 (by with_reducible assumption) | exact ne3 (by with_reducible assumption) | exact ne4 (by with_reducible assumption) | exact ne5 (by with_reducible assumption) | ((try dsimp only); omega)))
  (k_with "subscriptTail Name Constant ref int" => (k_here; k_dflt (refine item_listL (News.isList (by k_asm) (by k_mem)) (by decide) (by decide) (by exact rfl) ?_ (by with_unfolding_all rfl) (by intro _; with_unfolding_all rfl); k_whole)))
  (k_with "subscriptTail Name Name ref int" => (k_here; k_dflt (refine item_listL (News.isList (by k_asm) (by k_mem)) (by decide) (by decide) (by exact rfl) ?_ (by with_unfolding_all rfl) (by intro _; with_unfolding_all rfl); k_whole)))
  (k_with "call ref" => (k_here; (with_reducible show wpAny _ _ (call (Value.ref 347) [Value.ref _, Value.int _ _]) _ _ _); k_dflt (refine take_use (by k_asm) (by k_asm) (by k_asm) (by k_asm) (by k_asm) (by first | exact rfl | assumption) (by k_updF) (by assumption) (by first | decide | omega) (by first | decide | omega) (by ktr_room) (by ktr_units) ?_); intro r9 t9 o9 h9 tk9 hlo9 hhi9 hs9 F9 N9; (try dsimp only at N9 hhi9 ⊢); (try k_fold)))
  (k_with "kts_go" => (first
  | (apply code_defS0; (case hA => exact rfl); (case F => k_asm); (case B => k_asm); (case X₀ => k_asm); (case N => k_asm); (case T => k_asm); (case ho => k_is); (case hcd => k_is); (case hroom => ktr_room); (case hbind => exact BindsTo.of_eq rfl); (case hloc => exact locs rfl); (case hck => assumption); (case hco => exact rfl); (case hgen => exact rfl); (case hk => exact rfl); (case hcell => decide); k_whole; intro g' L' h' FG' F' N' B' X' T' D'; (try dsimp only); (try k_lift B'); (try k_fold))
  | (apply code_defS; (case hA => exact rfl); (case F => k_asm); (case B => k_asm); (case XB => assumption); (case TB => assumption); (case D => assumption); (case T0 => first | assumption | exact KtsTurn.refl); (case X₀ => k_asm); (case N => k_asm); (case T => k_asm); (case ho => k_is); (case hcd => k_is); (case hroom => ktr_room); (case hbind => exact BindsTo.of_eq rfl); (case hloc => exact locs rfl); (case hck => first | assumption | exact rfl); (case hco => exact rfl); (case hgen => exact rfl); (case hk => exact rfl); (case hcell => decide); k_whole; intro g' L' h' FG' F' N' B' X' T' D'; (try dsimp only); (try k_lift B'); (try k_fold))))
  trivial
section
theorem SpecT.use {prog : Program} {w : World} {p : Program} {loose : List Str} {mean : ExcName → Option Value} {mg mb : Str → Option Value} {f : Addr} {vs : List Value} {news : List (Addr × Obj)} {dn un₀ : Nat} {Post : Value → List (Addr × Obj) → Prop}
    (S : SpecT prog w p loose mean mg mb f vs news dn un₀ Post) {dp un : Nat} {gd : Option (List Code)} {cn : Str} {cs : Scope} {a : Addr} {ccd : Value} {A₀ : Around} {base h₀ : Heap} {L : Addr} {m : Str → Option Value} {s : Shared} {Q E : Value → Shared → Prop}
    (B : Below A₀ base [] h₀) (F : Fr h₀ L s.heap m) (X : (hd.heap_39 w.params).In h₀) (N : News h₀ L s.heap news) (T : Top p loose mean mg mb h₀) (XB : (hd.heap_39 w.params).In base) (TB : Top p loose mean mg mb base) (hk : cs.kind = .function) (hdp : dp + dn < recursionLimit) (hu : un + un₀ < cLine)
    (ret : ∀ (v : Value) (news' : List (Addr × Obj)) (h' : Heap) (tk' : Nat), Post v news' → Fr h₀ L h' m → News h₀ L h' news' → Q v { s with heap := h', toks := tk' }) :
    wpAny (model prog w) (ktrTop dp un gd cn cs L a ccd [] []) (call (.ref f) vs) Q E s := S _ _ _ _ _ _ _ _ _ _ _ _ _ _ _ B F X N T XB TB hk hdp hu ret
theorem SpecT.use2 {prog : Program} {w : World} {p : Program} {loose : List Str} {mean : ExcName → Option Value} {mg mb : Str → Option Value} {f : Addr} {vs : List Value} {news : List (Addr × Obj)} {dn un₀ : Nat} {Post : Value → List (Addr × Obj) → Prop} {dp un : Nat} {gd : Option (List Code)} {cn : Str} {cs : Scope} {a : Addr} {ccd : Value} {A₀ : Around} {base h₀ : Heap} {L : Addr} {m : Str → Option Value} {s : Shared} {Q E : Value → Shared → Prop}
    (B : Below A₀ base [] h₀) (F : Fr h₀ L s.heap m) (X : (hd.heap_39 w.params).In h₀) (N : News h₀ L s.heap news) (T : Top p loose mean mg mb h₀) (XB : (hd.heap_39 w.params).In base) (TB : Top p loose mean mg mb base) (hk : cs.kind = .function) (S : SpecT prog w p loose mean mg mb f vs news dn un₀ Post) (hdp : dp + dn < recursionLimit) (hu : un + un₀ < cLine)
    (ret : ∀ (v : Value) (news' : List (Addr × Obj)) (h' : Heap) (tk' : Nat), Post v news' → Fr h₀ L h' m → News h₀ L h' news' → Q v { s with heap := h', toks := tk' }) :
    wpAny (model prog w) (ktrTop dp un gd cn cs L a ccd [] []) (call (.ref f) vs) Q E s := S _ _ _ _ _ _ _ _ _ _ _ _ _ _ _ B F X N T XB TB hk hdp hu ret
theorem Spec.mono2 {prog : Program} {w : World} {p : Program} {loose : List Str} {mean : ExcName → Option Value} {mg mb : Str → Option Value} {f : Addr} {vs : List Value} {news : List (Addr × Obj)} {dn un₀ : Nat} {P P' : Value → List (Addr × Obj) → Prop}
    (S : Spec prog w p loose mean mg mb f vs news dn un₀ P) (h : ∀ v nn, P v nn → ∃ n2, (∀ q ∈ n2, q ∈ nn) ∧ P' v n2) : Spec prog w p loose mean mg mb f vs news dn un₀ P' := fun _ _ _ _ _ _ _ _ _ _ _ _ _ _ _ _ _ B F X N T hk hd hu ret => S _ _ _ _ _ _ _ _ _ _ _ _ _ _ _ _ _ B F X N T hk hd hu fun v n' h' tk' hp F' N' => by
  obtain ⟨n2, hs, hp2⟩ := h v n' hp
  exact ret v n2 h' tk' hp2 F' (news_perm N' hs)
theorem upd_in {src : Addr} {o o' : Obj} {news nn : List (Addr × Obj)} {g : Obj → List (Addr × Obj)} (U : UpdF src o news g) (hm : (src, o') ∈ nn) (hs : ∀ q ∈ news, q.1 ≠ src → q ∈ nn) : ∀ q ∈ g o', q ∈ nn := by
  obtain ⟨pre, post, rfl, hg, hpre, hpost⟩ := U.split
  intro q hq
  rw [hg] at hq
  rcases List.mem_append.mp hq with h | h
  · exact hs q (List.mem_append_left _ h) (hpre q h)
  · rcases List.mem_cons.mp h with rfl | h
    · exact hm
    · exact hs q (List.mem_append_right _ (.tail _ h)) (hpost q h)
theorem dec_law {prog : Program} {w : World} {p : Program} {loose : List Str} {mean : ExcName → Option Value} {mg mb : Str → Option Value} {src : Addr} {o : Obj} {news : List (Addr × Obj)} {g : Obj → List (Addr × Obj)} (U : UpdF src o news g) (ho : SrcOk o) :
    Spec prog w p loose mean mg mb 380 [.ref src] news 8 600 (fun v nn => v = .bool true ∧ ∃ o', SrcOk o' ∧ nn = g o') :=
  (dec_spec U ho).mono2 fun v nn ⟨e, o', hm, hok, hs⟩ => ⟨g o', upd_in U hm hs, e, o', hok, rfl⟩
theorem weight_law {prog : Program} {w : World} {p : Program} {loose : List Str} {mean : ExcName → Option Value} {mg mb : Str → Option Value} {src : Addr} {o : Obj} {news : List (Addr × Obj)} {g : Obj → List (Addr × Obj)} (U : UpdF src o news g) (ho : SrcOk o) :
    Spec prog w p loose mean mg mb 361 [.ref src] news 4 500 (fun v nn => ∃ r x wt tw n o', v = .ref r ∧ (r, ({ cls := .type "tuple", data := .seq [.ref x, .int wt tw].toArray n } : Obj)) ∈ nn ∧ SrcOk o' ∧ (∀ q ∈ g o', q ∈ nn) ∧ LevelIs prog w p loose mean mg mb nn x wt) :=
  (weight_spec U ho).mono fun v nn ⟨r, x, wt, tw, n, o', e, h1, h2, h3, h4, h5⟩ => ⟨r, x, wt, tw, n, o', e, h1, h3, upd_in U h2 h4, h5⟩
theorem test_law {prog : Program} {w : World} {p : Program} {loose : List Str} {mean : ExcName → Option Value} {mg mb : Str → Option Value} {src : Addr} {o : Obj} {news : List (Addr × Obj)} {g : Obj → List (Addr × Obj)} (U : UpdF src o news g) (ho : SrcOk o) :
    Spec prog w p loose mean mg mb 401 [.ref src] news 4 500 (fun v nn => ∃ e r due td n o', v = .ref e ∧ (e, ({ cls := .type "tuple", data := .seq [.ref r, .str due td].toArray n } : Obj)) ∈ nn ∧ SrcOk o' ∧ (∀ q ∈ g o', q ∈ nn) ∧ TestIs prog w p loose mean mg mb nn r due) :=
  (test_spec U ho).mono fun v nn ⟨e, r, due, td, n, o', e1, h1, h2, h3, h4, h5⟩ => ⟨e, r, due, td, n, o', e1, h1, h3, upd_in U h2 h4, h5⟩
theorem news_nil {h₀ h : Heap} {L : Addr} {l : List (Addr × Obj)} (_ : News h₀ L h l) : News h₀ L h [] := fun _ h => nomatch h
theorem ne_int_self {prog : Program} {w : World} {A : Around} {E : Value → Shared → Prop} {s : Shared} {a : Int} {t u : Tok} {Q : Value → Shared → Prop} (h : Q (.bool false) s) : wpAny (model prog w) A (compareOp .NotEq (.int a t) (.int a u)) Q E s := ne_int (by rw [bne_self_eq_false]; exact h)
theorem ne_str_self {prog : Program} {w : World} {A : Around} {E : Value → Shared → Prop} {s : Shared} {a : Str} {t u : Tok} {Q : Value → Shared → Prop} (h : Q (.bool false) s) : wpAny (model prog w) A (compareOp .NotEq (.str a t) (.str a u)) Q E s := ne_str (by rw [bne_self_eq_false]; exact h)
theorem off1 {r I : Addr} {o : Obj} (h : r < I) : ∀ p ∈ [(r, o)], p.1 ≠ I := fun p hp => by rw [List.mem_singleton.mp hp]; exact Nat.ne_of_lt h
theorem range_ind {prog : Program} {w : World} {A : Around} {E : Value → Shared → Prop} {h₀ : Heap} {env : Env} {x : Str} {body : List Stmt} {Q : Flow → Shared → Prop} {s : Shared} {I : Addr} {a₀ : Int} {n : Nat} (Inv : (Str → Option Value) → List (Addr × Obj) → Prop)
    (last : ∀ i m news, Inv m news → RangeRest prog w A E h₀ env x body Q s I a₀ n 0 i m news)
    (step : ∀ k i m news, Inv m news → (∀ m' news', Inv m' news' → RangeRest prog w A E h₀ env x body Q s I a₀ n k (i + 1) m' news') → RangeRest prog w A E h₀ env x body Q s I a₀ n (k + 1) i m news) :
    ∀ (k i : Nat) (m : Str → Option Value) (news : List (Addr × Obj)), Inv m news → RangeRest prog w A E h₀ env x body Q s I a₀ n k i m news
  | 0, i, m, news, h => last i m news h
  | k + 1, i, m, news, h => step k i m news h fun m' n' h' => range_ind Inv last step k (i + 1) m' n' h'
theorem map_at {M : Str → Option Value} (a : Str) : M = fun y => if y = a then M a else M y := funext fun y => by
  by_cases h : y = a
  · rw [if_pos h, h]
  · rw [if_neg h]
theorem map_at3 {M : Str → Option Value} (a b c : Str) : M = fun y => if y = c then M c else if y = b then M b else if y = a then M a else M y := funext fun y => by
  by_cases h1 : y = c
  · rw [if_pos h1, h1]
  · rw [if_neg h1]
    by_cases h2 : y = b
    · rw [if_pos h2, h2]
    · rw [if_neg h2]
      exact congrFun (map_at a) y
theorem map_again {M : Str → Option Value} {a : Str} {p q : Option Value} : (fun y => if y = a then p else if y = a then q else M y) = fun y => if y = a then p else M y := funext fun y => by
  by_cases h : y = a
  · rw [if_pos h, if_pos h]
  · rw [if_neg h, if_neg h, if_neg h]
theorem map_again3 {M : Str → Option Value} {a b c : Str} {p q r p' q' r' : Option Value} :
    (fun y => if y = c then r else if y = b then q else if y = a then p else if y = c then r' else if y = b then q' else if y = a then p' else M y) = fun y => if y = c then r else if y = b then q else if y = a then p else M y := funext fun y => by
  by_cases h1 : y = c
  · simp only [if_pos h1]
  · simp only [if_neg h1]
    by_cases h2 : y = b
    · simp only [if_pos h2]
    · simp only [if_neg h2]
      by_cases h3 : y = a
      · simp only [if_pos h3]
      · simp only [if_neg h3]
theorem range_src3 {prog : Program} {w : World} {A : Around} {E : Value → Shared → Prop} {h₀ : Heap} {env : Env} {x : Str} {body : List Stmt} {Q : Flow → Shared → Prop} {s : Shared} {I : Addr} {a₀ : Int} {n : Nat} {M : Str → Option Value} {r : Addr} {o : Obj} (a b c : Str) (ho : SrcOk o)
    (last : ∀ (i : Nat) (vt ve vw : Option Value) (o : Obj), SrcOk o → RangeRest prog w A E h₀ env x body Q s I a₀ n 0 i (fun y => if y = c then vw else if y = b then ve else if y = a then vt else M y) [(r, o)])
    (step : ∀ (k i : Nat) (vt ve vw : Option Value) (o : Obj), SrcOk o → (∀ (pt pe pw : Option Value) (o' : Obj), SrcOk o' → RangeRest prog w A E h₀ env x body Q s I a₀ n k (i + 1) (fun y => if y = c then pw else if y = b then pe else if y = a then pt else if y = c then vw else if y = b then ve else if y = a then vt else M y) [(r, o')]) → RangeRest prog w A E h₀ env x body Q s I a₀ n (k + 1) i (fun y => if y = c then vw else if y = b then ve else if y = a then vt else M y) [(r, o)])
    (k i : Nat) : RangeRest prog w A E h₀ env x body Q s I a₀ n k i M [(r, o)] := by
  refine range_ind (fun m news => ∃ (vt ve vw : Option Value) (o : Obj), SrcOk o ∧ m = (fun y => if y = c then vw else if y = b then ve else if y = a then vt else M y) ∧ news = [(r, o)]) ?_ ?_ k i M [(r, o)] ⟨M a, M b, M c, o, ho, map_at3 a b c, rfl⟩
  · rintro i m news ⟨vt, ve, vw, o, ho, rfl, rfl⟩
    exact last i vt ve vw o ho
  · rintro k i m news ⟨vt, ve, vw, o, ho, rfl, rfl⟩ ih
    exact step k i vt ve vw o ho fun pt pe pw o' ho' => ih _ _ ⟨pt, pe, pw, o', ho', map_again3, rfl⟩
theorem range_src1 {prog : Program} {w : World} {A : Around} {E : Value → Shared → Prop} {h₀ : Heap} {env : Env} {x : Str} {body : List Stmt} {Q : Flow → Shared → Prop} {s : Shared} {I : Addr} {a₀ : Int} {n : Nat} {M : Str → Option Value} {r : Addr} {o : Obj} (a : Str) (ho : SrcOk o)
    (last : ∀ (i : Nat) (vt : Option Value) (o : Obj), SrcOk o → RangeRest prog w A E h₀ env x body Q s I a₀ n 0 i (fun y => if y = a then vt else M y) [(r, o)])
    (step : ∀ (k i : Nat) (vt : Option Value) (o : Obj), SrcOk o → (∀ (pt : Option Value) (o' : Obj), SrcOk o' → RangeRest prog w A E h₀ env x body Q s I a₀ n k (i + 1) (fun y => if y = a then pt else if y = a then vt else M y) [(r, o')]) → RangeRest prog w A E h₀ env x body Q s I a₀ n (k + 1) i (fun y => if y = a then vt else M y) [(r, o)])
    (k i : Nat) : RangeRest prog w A E h₀ env x body Q s I a₀ n k i M [(r, o)] := by
  refine range_ind (fun m news => ∃ (vt : Option Value) (o : Obj), SrcOk o ∧ m = (fun y => if y = a then vt else M y) ∧ news = [(r, o)]) ?_ ?_ k i M [(r, o)] ⟨M a, o, ho, map_at a, rfl⟩
  · rintro i m news ⟨vt, o, ho, rfl, rfl⟩
    exact last i vt o ho
  · rintro k i m news ⟨vt, o, ho, rfl, rfl⟩ ih
    exact step k i vt o ho fun pt o' ho' => ih _ _ ⟨pt, o', ho', map_again, rfl⟩
section
theorem rows_c23_11 : True := by
  (k_with "UnrEnd" => (first
    | exact UnrEnd.intro (by assumption) (by assumption) _ (fun p hp => hp) (off1 (by assumption)) (ih9 _ _ _ _ (by assumption))
    | exact UnrEnd.intro (by assumption) (by assumption) _ (fun p hp => hp) (off1 (by assumption)) (ih9 _ _ (by assumption))))
  (k_with "RangeRest" => ((with_reducible show RangeRest _ _ _ _ _ _ _ _ _ _ _ _ _ 6 _ _ _); k_dflt (refine range_src3 (Str.ofString "turn") (Str.ofString "expr") (Str.ofString "weight") (by assumption) (fun i9 vt ve vw o9 ho9 => ?_) (fun k9 i9 vt ve vw o9 ho9 ih9 => ?_) 6 _) <;> first | (refine RangeRest.zero (fun h9 tk9 F9 N9 => ?_)) | (refine RangeRest.succ (fun t9 h9 tk9 F9 N9 => ?_))))
  (k_with "RangeRest" => ((with_reducible show RangeRest _ _ _ _ _ _ _ _ _ _ _ _ _ 8 _ _ _); k_dflt (refine range_src3 (Str.ofString "turn") (Str.ofString "test") (Str.ofString "due") (by assumption) (fun i9 vt ve vw o9 ho9 => ?_) (fun k9 i9 vt ve vw o9 ho9 ih9 => ?_) 8 _) <;> first | (refine RangeRest.zero (fun h9 tk9 F9 N9 => ?_)) | (refine RangeRest.succ (fun t9 h9 tk9 F9 N9 => ?_))))
  (k_with "RangeRest" => ((with_reducible show RangeRest _ _ _ _ _ _ _ _ _ _ _ _ _ 3 _ _ _); k_dflt (refine range_src1 (Str.ofString "turn") (by assumption) (fun i9 vt o9 ho9 => ?_) (fun k9 i9 vt o9 ho9 ih9 => ?_) 3 _) <;> first | (refine RangeRest.zero (fun h9 tk9 F9 N9 => ?_)) | (refine RangeRest.succ (fun t9 h9 tk9 F9 N9 => ?_))))
  (k_with "compareOp NotEq int int" => (k_here; with_reducible refine ne_int_self ?_))
  (k_with "compareOp NotEq str str" => (k_here; with_reducible refine ne_str_self ?_))
  (k_with "call ref" => (k_here; (with_reducible show wpAny _ _ (call (Value.ref 361) [Value.ref _]) _ _ _); k_dflt (refine Spec.use2 (by k_asm) (by k_asm) (by k_asm) (by k_asm) (by k_asm) (by first | exact rfl | assumption) (weight_law (by k_updF) (by first | assumption)) (by ktr_room) (by ktr_units) ?_); intro v9 n9 h9 tk9 hp9 F9 N9; obtain ⟨r9, x9, wt9, tw9, m9, o9, e9, hm9, hs9, hsub9, hlv9⟩ := hp9; subst e9; (try dsimp only at hsub9 ⊢); (try k_fold)))
  (k_with "call ref" => (k_here; (with_reducible show wpAny _ _ (call (Value.ref 312) [Value.ref _]) _ _ _); k_dflt (refine Spec.use2 (by k_asm) (by k_asm) (by k_asm) (by k_asm) (by k_asm) (by first | exact rfl | assumption) (LevelIs.out (by assumption)) (by ktr_room) (by ktr_units) ?_); intro v9 n9 h9 tk9 hp9 F9 N9; obtain ⟨⟨t9, e9⟩, e8⟩ := hp9; subst e9; subst e8; (rename (∀ q ∈ _, q ∈ _) => hsub9); (have N8 := news_perm N9 hsub9); clear N9; (try k_fold)))
  (k_with "call ref" => (k_here; (with_reducible show wpAny _ _ (call (Value.ref 380) [Value.ref _]) _ _ _); k_dflt (refine Spec.use2 (by k_asm) (by k_asm) (by k_asm) (by k_asm) (by k_asm) (by first | exact rfl | assumption) (dec_law (by k_updF) (by first | assumption)) (by ktr_room) (by ktr_units) ?_); intro v9 n9 h9 tk9 hp9 F9 N9; obtain ⟨e9, o9, hs9, e8⟩ := hp9; subst e9; subst e8; (try dsimp only at N9 ⊢); (try k_fold)))
  (k_with "call ref" => (k_here; (with_reducible show wpAny _ _ (call (Value.ref 401) [Value.ref _]) _ _ _); k_dflt (refine Spec.use2 (by k_asm) (by k_asm) (by k_asm) (by k_asm) (by k_asm) (by first | exact rfl | assumption) (test_law (by k_updF) (by first | assumption)) (by ktr_room) (by ktr_units) ?_); intro v9 n9 h9 tk9 hp9 F9 N9; obtain ⟨r9, x9, d9, td9, m9, o9, e9, hm9, hs9, hsub9, hlv9⟩ := hp9; subst e9; (try dsimp only at hsub9 ⊢); (try k_fold)))
  (k_with "call ref" => (k_here; (with_reducible show wpAny _ _ (call (Value.ref 394) [Value.ref _]) _ _ _); k_dflt (refine SpecT.use2 (by k_asm) (by k_asm) (by k_asm) (by k_asm) (by k_asm) (by k_asm) (by k_asm) (by first | exact rfl | assumption) (TestIs.out (by first | assumption | (exact told_name (x := Str.ofString "a") (by decide +kernel) (by k_mem)))) (by ktr_room) (by ktr_units) ?_); (first | ((rename (∀ q ∈ _, q ∈ _) => hsub9); intro v9 n9 h9 tk9 hp9 F9 N9; obtain ⟨⟨t9, e9⟩, hin9⟩ := hp9; subst e9; (have N8 := news_perm N9 (fun q hq => hin9 q (hsub9 q hq))); clear N9) | (intro v9 n9 h9 tk9 hp9 F9 N9; obtain ⟨⟨t9, e9⟩, hin9⟩ := hp9; subst e9; (have N8 := news_nil N9); clear N9)); (try k_fold)))
  (k_with "call ref" => (k_here; (with_reducible show wpAny _ _ (call (Value.ref 387) [Value.ref _]) _ _ _); k_dflt (refine SpecT.use2 (by k_asm) (by k_asm) (by k_asm) (by k_asm) (by k_asm) (by k_asm) (by k_asm) (by first | exact rfl | assumption) (far_spec (by k_updF) (by first | assumption)) (by ktr_room) (by ktr_units) ?_); intro v9 n9 h9 tk9 hp9 F9 N9; subst hp9; (try k_fold)))
  (k_with "call ref" => (k_here; (with_reducible show wpAny _ _ (call (Value.ref 340) [Value.ref _]) _ _ _); k_dflt (refine pool_use (by k_asm) (by k_asm) (by k_asm) (by k_asm) (by k_asm) (by first | exact rfl | assumption) (by assumption) (by assumption) (by omega) (by ktr_room) (by ktr_units) ?_); intro v9 n9 h9 tk9 hp9 F9 N9; obtain ⟨r9, o9, e9, hs9, e8, hlt9⟩ := hp9; subst e9; subst e8; (try k_fold)))
  trivial
set_option maxHeartbeats 3000000 in
theorem law_ok : PySem.Challenge.rw_xm0658_01.Holds := by
  refine holds_law hd.said fun rsaid => ?_
  refine holds_open (q := hd.view_39) (loose := []) (Xt := hd.Xt) (XP := XL hd.view_39 []) (Yf := (kHook hd.heap_39 hd.as hd.as_ok).obs) (Ya := (kHook hd.heap_39 hd.as hd.as_ok).val) (YP := (kHook hd.heap_39 hd.as hd.as_ok).says) (N := 6738)
    hd.left (kHook hd.heap_39 hd.as hd.as_ok).of (kHook hd.heap_39 hd.as hd.as_ok).keeps (fun s e => xl_of s (Bool.and_eq_true_iff.mp e).1) XL.keeps (by rfl) (by rfl) (by rfl) (fun s e => recFacts_of (Bool.and_eq_true_iff.mp e).2) (by rfl) rsaid (by decide +kernel) ⟨rfl, rfl, rfl, rfl, rfl, by decide +kernel⟩ ?hw ?hc
  case hw => w_witness2
  k_go0
  (all_goals try k_fold)
  repeat' (first | (k_unfold; (try dsimp only)) | walk1 | (dsimp only; walk1) | (leave1; walk_say "STEP leave1"; (try dsimp only)))
  all_goals k_steps
  (all_goals (try k_data))
  all_goals w_report
end
end
end Mine
theorem PySem.Challenge.cw_xm0658_01_holds : PySem.Challenge.rw_xm0658_01.Holds := by
  exact Mine.law_ok
