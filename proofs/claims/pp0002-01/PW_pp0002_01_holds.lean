import PyProof.Rows.All
import Wide.All
import OpenK.AllK
import Wide.FinOn
import Lean
import PySem.Challenge.RW_pp0002_01
set_option Elab.async false

section
open PySem PySem.W PyProof.Rows
set_option linter.all false
set_option maxRecDepth 100000
set_option maxHeartbeats 8000000
namespace Mine

noncomputable abbrev topP : Program := PySem.Challenge.pw_pp0002_01
noncomputable def fnDef : Stmt → Arguments × List Stmt × Scope
  | .FunctionDef _ args body _ _ _ scope _ _ _ => (args, body, scope)
  | _ => default
/-- the i-th statement of the text, a def: its parameters, body and scope -/
noncomputable def fnAt (i : Nat) : Arguments × List Stmt × Scope := fnDef ((PySem.Challenge.pw_pp0002_01.main.body[i]?).getD default)
noncomputable def methDef : Stmt → Arguments × List Stmt × Scope
  | .ClassDef _ _ _ (b :: _) _ _ _ _ _ _ _ => fnDef b
  | _ => default
/-- the first method of the class that is the i-th statement of the text -/
noncomputable def methAt (i : Nat) : Arguments × List Stmt × Scope := methDef ((PySem.Challenge.pw_pp0002_01.main.body[i]?).getD default)

/-! the states that the top's run comes by (written by GenTop.lean) -/
noncomputable abbrev topS (s : String) (n : Nat) : Value := .str (Str.ofString s) n
noncomputable abbrev topE (P : Params) (s : String) (n : Nat) (v : Value) : DictEntry := ⟨PyData.keyHash P (Str.ofString s), topS s n, v⟩
noncomputable def o11 (P : Params) : Obj := ⟨(Value.type "tuple"), none, (Data.seq #[] 0), #[]⟩
noncomputable def o12 (P : Params) : Obj := ⟨Value.none, none, (Data.fields #[]), #[]⟩
noncomputable def o13 (P : Params) : Obj := ⟨(Value.type "code"), none, (Data.fields #[(topS "<module>" 182), (topS "<module>" 183), (topS "/claim/cut.py" 184), (.int (1 : Int) 0), (.int (0 : Int) 0), (.int (0 : Int) 0), (.int (0 : Int) 0), (.int (0 : Int) 0), (.ref 11), (Value.bool Bool.false), (.int (181 : Int) 0), (.ref 12), Value.none, Value.none, Value.none, Value.none, (.int (185 : Int) 0), (.int (1 : Int) 0), (topS "/claim/cut.py" 186)]), #[]⟩
noncomputable def o14 (P : Params) : Obj := ⟨(Value.type "frame"), none, Data.plain, #[(some (.ref 13)), (some (.ref 3)), (some (.ref 3)), none, (some (topS "__main__" 164)), none, (some (.ref 0))]⟩
noncomputable def heapAt0 (P : Params) : Heap := ⟨⟨[boot_o_0 P, boot_o_1 P, boot_o_2 P, boot_o_3 P, boot_o_4 P, boot_o_5 P, boot_o_6 P, boot_o_7 P, boot_o_8 P, boot_o_9 P, boot_o_10 P, o11 P, o12 P, o13 P, o14 P]⟩, {}⟩
noncomputable def treeAt1 (P : Params) : BT := (.node (boot_o_0 P) (.node (boot_o_1 P) (.node (boot_o_3 P) (.node (boot_o_7 P) .nil .nil) (.node (o11 P) .nil .nil)) (.node (boot_o_5 P) (.node (boot_o_9 P) .nil .nil) (.node (o13 P) .nil .nil))) (.node (boot_o_2 P) (.node (boot_o_4 P) (.node (boot_o_8 P) .nil .nil) (.node (o12 P) .nil .nil)) (.node (boot_o_6 P) (.node (boot_o_10 P) .nil .nil) (.node (o14 P) .nil .nil))))
noncomputable def o3at2 (P : Params) : Obj := ⟨(Value.type "dict"), none, (Data.dict #[topE P "__name__" 165 (topS "adacore.errors" 220), topE P "__doc__" 166 Value.none, topE P "__package__" 167 Value.none, topE P "__loader__" 168 (Value.builtin "__main__.__loader__#opaque"), topE P "__spec__" 169 Value.none, topE P "__annotations__" 170 (.ref 6), topE P "__builtins__" 171 (.ref 4), topE P "__file__" 173 (topS "/claim/cut.py" 172), topE P "__cached__" 174 Value.none, topE P "item_name" 196 (.ref 21), topE P "named_units" 204 (.ref 26), topE P "is_body" 213 (.ref 33), topE P "unit_part" 219 (.ref 38)] 13), #[]⟩
noncomputable def o12at2 (P : Params) : Obj := ⟨Value.none, none, (Data.fields #[(.int (2 : Int) 0), (.int (0 : Int) 0), (.ref 20), (.int (8 : Int) 0), (.int (0 : Int) 0), (.ref 25), (.int (16 : Int) 0), (.int (0 : Int) 0), (.ref 32), (.int (19 : Int) 0), (.int (0 : Int) 0), (.ref 37)]), #[]⟩
noncomputable def o15 (P : Params) : Obj := ⟨(Value.type "tuple"), none, (Data.seq #[] 0), #[]⟩
noncomputable def o16 (P : Params) : Obj := ⟨Value.none, none, (Data.fields #[]), #[]⟩
noncomputable def o17 (P : Params) : Obj := ⟨(Value.type "tuple"), none, (Data.seq #[(topS "item" 192), (topS "unit" 193)] 0), #[]⟩
noncomputable def o18 (P : Params) : Obj := ⟨(Value.type "tuple"), none, (Data.seq #[] 0), #[]⟩
noncomputable def o19 (P : Params) : Obj := ⟨Value.none, none, (.func ⟨(Str.ofString "item_name"), (Str.ofString "item_name"), (fnAt 1).1, .stmts (fnAt 1).2.1, (fnAt 1).2.2, 0, [], Value.none, Value.none, Value.none, Value.none, none, Value.none, Value.none, 0⟩), #[]⟩
noncomputable def o20 (P : Params) : Obj := ⟨(Value.type "code"), none, (Data.fields #[(topS "item_name" 189), (topS "item_name" 190), (topS "/claim/cut.py" 191), (.int (2 : Int) 0), (.int (1 : Int) 0), (.int (0 : Int) 0), (.int (0 : Int) 0), (.int (3 : Int) 0), (.ref 15), (Value.bool Bool.true), (.int (181 : Int) 0), (.ref 16), Value.none, (.ref 17), (.ref 18), (.ref 19), (.int (194 : Int) 0), (.int (2 : Int) 0), (topS "/claim/cut.py" 195)]), #[]⟩
noncomputable def o21 (P : Params) : Obj := ⟨(Value.type "function"), none, (.func ⟨(Str.ofString "item_name"), (Str.ofString "item_name"), (fnAt 1).1, .stmts (fnAt 1).2.1, (fnAt 1).2.2, 3, [], Value.none, Value.none, Value.none, (topS "adacore.units" 187), none, (.ref 20), Value.none, 0⟩), #[]⟩
noncomputable def o22 (P : Params) : Obj := ⟨(Value.type "tuple"), none, (Data.seq #[] 0), #[]⟩
noncomputable def o23 (P : Params) : Obj := ⟨Value.none, none, (Data.fields #[]), #[]⟩
noncomputable def o24 (P : Params) : Obj := ⟨Value.none, none, (.func ⟨(Str.ofString "named_units"), (Str.ofString "named_units"), (fnAt 3).1, .stmts (fnAt 3).2.1, (fnAt 3).2.2, 0, [], Value.none, Value.none, Value.none, Value.none, none, Value.none, Value.none, 0⟩), #[]⟩
noncomputable def o25 (P : Params) : Obj := ⟨(Value.type "code"), none, (Data.fields #[(topS "named_units" 199), (topS "named_units" 200), (topS "/claim/cut.py" 201), (.int (8 : Int) 0), (.int (2 : Int) 0), (.int (0 : Int) 0), (.int (0 : Int) 0), (.int (3 : Int) 0), (.ref 22), (Value.bool Bool.true), (.int (181 : Int) 0), (.ref 23), Value.none, Value.none, Value.none, (.ref 24), (.int (202 : Int) 0), (.int (8 : Int) 0), (topS "/claim/cut.py" 203)]), #[]⟩
noncomputable def o26 (P : Params) : Obj := ⟨(Value.type "function"), none, (.func ⟨(Str.ofString "named_units"), (Str.ofString "named_units"), (fnAt 3).1, .stmts (fnAt 3).2.1, (fnAt 3).2.2, 3, [], Value.none, Value.none, Value.none, (topS "adacore.checker" 197), none, (.ref 25), Value.none, 0⟩), #[]⟩
noncomputable def o27 (P : Params) : Obj := ⟨(Value.type "tuple"), none, (Data.seq #[] 0), #[]⟩
noncomputable def o28 (P : Params) : Obj := ⟨Value.none, none, (Data.fields #[]), #[]⟩
noncomputable def o29 (P : Params) : Obj := ⟨(Value.type "tuple"), none, (Data.seq #[(topS "declaration" 208), (topS "library" 209), (topS "name" 210)] 0), #[]⟩
noncomputable def o30 (P : Params) : Obj := ⟨(Value.type "tuple"), none, (Data.seq #[] 0), #[]⟩
noncomputable def o31 (P : Params) : Obj := ⟨Value.none, none, (.func ⟨(Str.ofString "is_body"), (Str.ofString "is_body"), (fnAt 4).1, .stmts (fnAt 4).2.1, (fnAt 4).2.2, 0, [], Value.none, Value.none, Value.none, Value.none, none, Value.none, Value.none, 0⟩), #[]⟩
noncomputable def o32 (P : Params) : Obj := ⟨(Value.type "code"), none, (Data.fields #[(topS "is_body" 205), (topS "is_body" 206), (topS "/claim/cut.py" 207), (.int (16 : Int) 0), (.int (2 : Int) 0), (.int (0 : Int) 0), (.int (0 : Int) 0), (.int (3 : Int) 0), (.ref 27), (Value.bool Bool.true), (.int (181 : Int) 0), (.ref 28), Value.none, (.ref 29), (.ref 30), (.ref 31), (.int (211 : Int) 0), (.int (16 : Int) 0), (topS "/claim/cut.py" 212)]), #[]⟩
noncomputable def o33 (P : Params) : Obj := ⟨(Value.type "function"), none, (.func ⟨(Str.ofString "is_body"), (Str.ofString "is_body"), (fnAt 4).1, .stmts (fnAt 4).2.1, (fnAt 4).2.2, 3, [], Value.none, Value.none, Value.none, (topS "adacore.checker" 197), none, (.ref 32), Value.none, 0⟩), #[]⟩
noncomputable def o34 (P : Params) : Obj := ⟨(Value.type "tuple"), none, (Data.seq #[] 0), #[]⟩
noncomputable def o35 (P : Params) : Obj := ⟨Value.none, none, (Data.fields #[]), #[]⟩
noncomputable def o36 (P : Params) : Obj := ⟨Value.none, none, (.func ⟨(Str.ofString "unit_part"), (Str.ofString "unit_part"), (fnAt 5).1, .stmts (fnAt 5).2.1, (fnAt 5).2.2, 0, [], Value.none, Value.none, Value.none, Value.none, none, Value.none, Value.none, 0⟩), #[]⟩
noncomputable def o37 (P : Params) : Obj := ⟨(Value.type "code"), none, (Data.fields #[(topS "unit_part" 214), (topS "unit_part" 215), (topS "/claim/cut.py" 216), (.int (19 : Int) 0), (.int (2 : Int) 0), (.int (0 : Int) 0), (.int (0 : Int) 0), (.int (3 : Int) 0), (.ref 34), (Value.bool Bool.true), (.int (181 : Int) 0), (.ref 35), Value.none, Value.none, Value.none, (.ref 36), (.int (217 : Int) 0), (.int (19 : Int) 0), (topS "/claim/cut.py" 218)]), #[]⟩
noncomputable def o38 (P : Params) : Obj := ⟨(Value.type "function"), none, (.func ⟨(Str.ofString "unit_part"), (Str.ofString "unit_part"), (fnAt 5).1, .stmts (fnAt 5).2.1, (fnAt 5).2.2, 3, [], Value.none, Value.none, Value.none, (topS "adacore.checker" 197), none, (.ref 37), Value.none, 0⟩), #[]⟩
noncomputable def treeAt2 (P : Params) : BT := (.node (boot_o_0 P) (.node (boot_o_1 P) (.node (o3at2 P) (.node (boot_o_7 P) (.node (o15 P) (.node (o31 P) .nil .nil) .nil) (.node (o23 P) .nil .nil)) (.node (o11 P) (.node (o19 P) (.node (o35 P) .nil .nil) .nil) (.node (o27 P) .nil .nil))) (.node (boot_o_5 P) (.node (boot_o_9 P) (.node (o17 P) (.node (o33 P) .nil .nil) .nil) (.node (o25 P) .nil .nil)) (.node (o13 P) (.node (o21 P) (.node (o37 P) .nil .nil) .nil) (.node (o29 P) .nil .nil)))) (.node (boot_o_2 P) (.node (boot_o_4 P) (.node (boot_o_8 P) (.node (o16 P) (.node (o32 P) .nil .nil) .nil) (.node (o24 P) .nil .nil)) (.node (o12at2 P) (.node (o20 P) (.node (o36 P) .nil .nil) .nil) (.node (o28 P) .nil .nil))) (.node (boot_o_6 P) (.node (boot_o_10 P) (.node (o18 P) (.node (o34 P) .nil .nil) .nil) (.node (o26 P) .nil .nil)) (.node (o14 P) (.node (o22 P) (.node (o38 P) .nil .nil) .nil) (.node (o30 P) .nil .nil)))))
noncomputable def o2at3 (P : Params) : Obj := ⟨Value.none, none, (Data.dict #[topE P "type.__subclasses__.Exception.0" 247 (.int (55 : Int) 0), topE P "type.__subclasses__.Exception.n" 248 (.int (1 : Int) 0)] 2), #[]⟩
noncomputable def o3at3 (P : Params) : Obj := ⟨(Value.type "dict"), none, (Data.dict #[topE P "__name__" 165 (topS "adacore.errors" 220), topE P "__doc__" 166 Value.none, topE P "__package__" 167 Value.none, topE P "__loader__" 168 (Value.builtin "__main__.__loader__#opaque"), topE P "__spec__" 169 Value.none, topE P "__annotations__" 170 (.ref 6), topE P "__builtins__" 171 (.ref 4), topE P "__file__" 173 (topS "/claim/cut.py" 172), topE P "__cached__" 174 Value.none, topE P "item_name" 196 (.ref 21), topE P "named_units" 204 (.ref 26), topE P "is_body" 213 (.ref 33), topE P "unit_part" 219 (.ref 38), topE P "AdaError" 250 (.ref 55)] 14), #[]⟩
noncomputable def o12at3 (P : Params) : Obj := ⟨Value.none, none, (Data.fields #[(.int (2 : Int) 0), (.int (0 : Int) 0), (.ref 20), (.int (8 : Int) 0), (.int (0 : Int) 0), (.ref 25), (.int (16 : Int) 0), (.int (0 : Int) 0), (.ref 32), (.int (19 : Int) 0), (.int (0 : Int) 0), (.ref 37), (.int (27 : Int) 0), (.int (0 : Int) 0), (.ref 44)]), #[]⟩
noncomputable def o39 (P : Params) : Obj := ⟨(Value.type "tuple"), none, (Data.seq #[(Value.type "Exception")] 0), #[]⟩
noncomputable def o40 (P : Params) : Obj := ⟨(Value.type "builtin_function_or_method"), none, (Data.fields #[(Value.builtin "type.__prepare__"), (Value.type "type")]), #[]⟩
noncomputable def o41 (P : Params) : Obj := ⟨(Value.type "dict"), none, (Data.dict #[topE P "__module__" 229 (topS "adacore.errors" 220), topE P "__qualname__" 231 (topS "AdaError" 230), topE P "__firstlineno__" 233 (.int (27 : Int) 232), topE P "__init__" 241 (.ref 52), topE P "__static_attributes__" 243 (.ref 53)] 5), #[]⟩
noncomputable def o42 (P : Params) : Obj := ⟨(Value.type "tuple"), none, (Data.seq #[] 0), #[]⟩
noncomputable def o43 (P : Params) : Obj := ⟨Value.none, none, (Data.fields #[(.int (29 : Int) 0), (.int (4 : Int) 0), (.ref 51)]), #[]⟩
noncomputable def o44 (P : Params) : Obj := ⟨(Value.type "code"), none, (Data.fields #[(topS "AdaError" 224), (topS "AdaError" 225), (topS "/claim/cut.py" 226), (.int (27 : Int) 0), (.int (0 : Int) 0), (.int (0 : Int) 0), (.int (0 : Int) 0), (.int (0 : Int) 0), (.ref 42), (Value.bool Bool.false), (.int (181 : Int) 0), (.ref 43), Value.none, Value.none, Value.none, Value.none, (.int (227 : Int) 0), (.int (27 : Int) 0), (topS "/claim/cut.py" 228)]), #[]⟩
noncomputable def o45 (P : Params) : Obj := ⟨(Value.type "frame"), none, Data.plain, #[(some (.ref 44)), (some (.ref 3)), (some (.ref 41)), none, (some (topS "adacore.errors" 220)), none, (some (.ref 0))]⟩
noncomputable def o46 (P : Params) : Obj := ⟨(Value.type "tuple"), none, (Data.seq #[] 0), #[]⟩
noncomputable def o47 (P : Params) : Obj := ⟨Value.none, none, (Data.fields #[]), #[]⟩
noncomputable def o48 (P : Params) : Obj := ⟨(Value.type "tuple"), none, (Data.seq #[(topS "self" 237), (topS "text" 238)] 0), #[]⟩
noncomputable def o49 (P : Params) : Obj := ⟨(Value.type "tuple"), none, (Data.seq #[] 0), #[]⟩
noncomputable def o50 (P : Params) : Obj := ⟨Value.none, none, (.func ⟨(Str.ofString "__init__"), (Str.ofString "AdaError.__init__"), (methAt 7).1, .stmts (methAt 7).2.1, (methAt 7).2.2, 0, [], Value.none, Value.none, Value.none, Value.none, none, Value.none, Value.none, 0⟩), #[]⟩
noncomputable def o51 (P : Params) : Obj := ⟨(Value.type "code"), none, (Data.fields #[(topS "__init__" 234), (topS "AdaError.__init__" 235), (topS "/claim/cut.py" 236), (.int (29 : Int) 0), (.int (2 : Int) 0), (.int (0 : Int) 0), (.int (0 : Int) 0), (.int (3 : Int) 0), (.ref 46), (Value.bool Bool.true), (.int (181 : Int) 0), (.ref 47), Value.none, (.ref 48), (.ref 49), (.ref 50), (.int (239 : Int) 0), (.int (29 : Int) 0), (topS "/claim/cut.py" 240)]), #[]⟩
noncomputable def o52 (P : Params) : Obj := ⟨(Value.type "function"), none, (.func ⟨(Str.ofString "__init__"), (Str.ofString "AdaError.__init__"), (methAt 7).1, .stmts (methAt 7).2.1, (methAt 7).2.2, 3, [], Value.none, Value.none, Value.none, (topS "adacore.errors" 220), none, (.ref 51), Value.none, 0⟩), #[]⟩
noncomputable def o53 (P : Params) : Obj := ⟨(Value.type "tuple"), none, (Data.seq #[(topS "text" 242)] 0), #[]⟩
noncomputable def o54 (P : Params) : Obj := ⟨(Value.type "dict"), none, (Data.dict #[topE P "__module__" 229 (topS "adacore.errors" 220), topE P "__firstlineno__" 233 (.int (27 : Int) 232), topE P "__init__" 241 (.ref 52), topE P "__static_attributes__" 243 (.ref 53), topE P "__weakref__" 245 (.ref 56), topE P "__doc__" 246 Value.none] 3), #[]⟩
noncomputable def o55 (P : Params) : Obj := ⟨(Value.type "type"), none, (Data.cls (ClassData.mk (Str.ofString "AdaError") [(Value.type "Exception")] [(.ref 55), (Value.type "Exception"), (Value.type "BaseException"), (Value.type "object")] 54 (Str.ofString "AdaError") Bool.true [] [] Bool.false none Bool.false)), #[(some (.ref 39)), none, (some (topS "AdaError" 222)), (some (topS "AdaError" 230)), (some (Value.builtin "Exception.__new__")), (some (Value.bool Bool.true))]⟩
noncomputable def o56 (P : Params) : Obj := ⟨(Value.type "getset_descriptor"), none, (Data.fields #[(topS "__weakref__" 244), (.ref 55), (Value.builtin "ExceptionGroup.__weakref__"), Value.none]), #[]⟩
noncomputable def o57 (P : Params) : Obj := ⟨(Value.type "super"), none, (Data.fields #[(.ref 55), (.ref 55), (.ref 55)]), #[]⟩
noncomputable def o58 (P : Params) : Obj := ⟨(Value.type "builtin_function_or_method"), none, (Data.fields #[(Value.builtin "object.__init_subclass__"), (.ref 55)]), #[]⟩
noncomputable def treeAt3 (P : Params) : BT := (.node (boot_o_0 P) (.node (boot_o_1 P) (.node (o3at3 P) (.node (boot_o_7 P) (.node (o15 P) (.node (o31 P) .nil .nil) (.node (o47 P) .nil .nil)) (.node (o23 P) (.node (o39 P) .nil .nil) (.node (o55 P) .nil .nil))) (.node (o11 P) (.node (o19 P) (.node (o35 P) .nil .nil) (.node (o51 P) .nil .nil)) (.node (o27 P) (.node (o43 P) .nil .nil) .nil))) (.node (boot_o_5 P) (.node (boot_o_9 P) (.node (o17 P) (.node (o33 P) .nil .nil) (.node (o49 P) .nil .nil)) (.node (o25 P) (.node (o41 P) .nil .nil) (.node (o57 P) .nil .nil))) (.node (o13 P) (.node (o21 P) (.node (o37 P) .nil .nil) (.node (o53 P) .nil .nil)) (.node (o29 P) (.node (o45 P) .nil .nil) .nil)))) (.node (o2at3 P) (.node (boot_o_4 P) (.node (boot_o_8 P) (.node (o16 P) (.node (o32 P) .nil .nil) (.node (o48 P) .nil .nil)) (.node (o24 P) (.node (o40 P) .nil .nil) (.node (o56 P) .nil .nil))) (.node (o12at3 P) (.node (o20 P) (.node (o36 P) .nil .nil) (.node (o52 P) .nil .nil)) (.node (o28 P) (.node (o44 P) .nil .nil) .nil))) (.node (boot_o_6 P) (.node (boot_o_10 P) (.node (o18 P) (.node (o34 P) .nil .nil) (.node (o50 P) .nil .nil)) (.node (o26 P) (.node (o42 P) .nil .nil) (.node (o58 P) .nil .nil))) (.node (o14 P) (.node (o22 P) (.node (o38 P) .nil .nil) (.node (o54 P) .nil .nil)) (.node (o30 P) (.node (o46 P) .nil .nil) .nil)))))
noncomputable def o3at4 (P : Params) : Obj := ⟨(Value.type "dict"), none, (Data.dict #[topE P "__name__" 165 (topS "adacore.errors" 220), topE P "__doc__" 166 Value.none, topE P "__package__" 167 Value.none, topE P "__loader__" 168 (Value.builtin "__main__.__loader__#opaque"), topE P "__spec__" 169 Value.none, topE P "__annotations__" 170 (.ref 6), topE P "__builtins__" 171 (.ref 4), topE P "__file__" 173 (topS "/claim/cut.py" 172), topE P "__cached__" 174 Value.none, topE P "item_name" 196 (.ref 21), topE P "named_units" 204 (.ref 26), topE P "is_body" 213 (.ref 33), topE P "unit_part" 219 (.ref 38), topE P "AdaError" 250 (.ref 55), topE P "CheckFault" 276 (.ref 75)] 15), #[]⟩
noncomputable def o12at4 (P : Params) : Obj := ⟨Value.none, none, (Data.fields #[(.int (2 : Int) 0), (.int (0 : Int) 0), (.ref 20), (.int (8 : Int) 0), (.int (0 : Int) 0), (.ref 25), (.int (16 : Int) 0), (.int (0 : Int) 0), (.ref 32), (.int (19 : Int) 0), (.int (0 : Int) 0), (.ref 37), (.int (27 : Int) 0), (.int (0 : Int) 0), (.ref 44), (.int (32 : Int) 0), (.int (0 : Int) 0), (.ref 64)]), #[]⟩
noncomputable def o55at4 (P : Params) : Obj := ⟨(Value.type "type"), none, (Data.cls (ClassData.mk (Str.ofString "AdaError") [(Value.type "Exception")] [(.ref 55), (Value.type "Exception"), (Value.type "BaseException"), (Value.type "object")] 54 (Str.ofString "AdaError") Bool.true [] [(.ref 75)] Bool.false none Bool.false)), #[(some (.ref 39)), none, (some (topS "AdaError" 222)), (some (topS "AdaError" 230)), (some (Value.builtin "Exception.__new__")), (some (Value.bool Bool.true))]⟩
noncomputable def o59 (P : Params) : Obj := ⟨(Value.type "tuple"), none, (Data.seq #[(.ref 55)] 0), #[]⟩
noncomputable def o60 (P : Params) : Obj := ⟨(Value.type "builtin_function_or_method"), none, (Data.fields #[(Value.builtin "type.__prepare__"), (Value.type "type")]), #[]⟩
noncomputable def o61 (P : Params) : Obj := ⟨(Value.type "dict"), none, (Data.dict #[topE P "__module__" 258 (topS "adacore.errors" 220), topE P "__qualname__" 260 (topS "CheckFault" 259), topE P "__firstlineno__" 262 (.int (32 : Int) 261), topE P "__init__" 271 (.ref 72), topE P "__static_attributes__" 273 (.ref 73)] 5), #[]⟩
noncomputable def o62 (P : Params) : Obj := ⟨(Value.type "tuple"), none, (Data.seq #[] 0), #[]⟩
noncomputable def o63 (P : Params) : Obj := ⟨Value.none, none, (Data.fields #[(.int (34 : Int) 0), (.int (4 : Int) 0), (.ref 71)]), #[]⟩
noncomputable def o64 (P : Params) : Obj := ⟨(Value.type "code"), none, (Data.fields #[(topS "CheckFault" 253), (topS "CheckFault" 254), (topS "/claim/cut.py" 255), (.int (32 : Int) 0), (.int (0 : Int) 0), (.int (0 : Int) 0), (.int (0 : Int) 0), (.int (0 : Int) 0), (.ref 62), (Value.bool Bool.false), (.int (181 : Int) 0), (.ref 63), Value.none, Value.none, Value.none, Value.none, (.int (256 : Int) 0), (.int (32 : Int) 0), (topS "/claim/cut.py" 257)]), #[]⟩
noncomputable def o65 (P : Params) : Obj := ⟨(Value.type "frame"), none, Data.plain, #[(some (.ref 64)), (some (.ref 3)), (some (.ref 61)), none, (some (topS "adacore.errors" 220)), none, (some (.ref 0))]⟩
noncomputable def o66 (P : Params) : Obj := ⟨(Value.type "tuple"), none, (Data.seq #[] 0), #[]⟩
noncomputable def o67 (P : Params) : Obj := ⟨Value.none, none, (Data.fields #[]), #[]⟩
noncomputable def o68 (P : Params) : Obj := ⟨(Value.type "tuple"), none, (Data.seq #[(topS "self" 266), (topS "line" 267), (topS "text" 268)] 0), #[]⟩
noncomputable def o69 (P : Params) : Obj := ⟨(Value.type "tuple"), none, (Data.seq #[] 0), #[]⟩
noncomputable def o70 (P : Params) : Obj := ⟨Value.none, none, (.func ⟨(Str.ofString "__init__"), (Str.ofString "CheckFault.__init__"), (methAt 8).1, .stmts (methAt 8).2.1, (methAt 8).2.2, 0, [], Value.none, Value.none, Value.none, Value.none, none, Value.none, Value.none, 0⟩), #[]⟩
noncomputable def o71 (P : Params) : Obj := ⟨(Value.type "code"), none, (Data.fields #[(topS "__init__" 263), (topS "CheckFault.__init__" 264), (topS "/claim/cut.py" 265), (.int (34 : Int) 0), (.int (3 : Int) 0), (.int (0 : Int) 0), (.int (0 : Int) 0), (.int (3 : Int) 0), (.ref 66), (Value.bool Bool.true), (.int (181 : Int) 0), (.ref 67), Value.none, (.ref 68), (.ref 69), (.ref 70), (.int (269 : Int) 0), (.int (34 : Int) 0), (topS "/claim/cut.py" 270)]), #[]⟩
noncomputable def o72 (P : Params) : Obj := ⟨(Value.type "function"), none, (.func ⟨(Str.ofString "__init__"), (Str.ofString "CheckFault.__init__"), (methAt 8).1, .stmts (methAt 8).2.1, (methAt 8).2.2, 3, [], Value.none, Value.none, Value.none, (topS "adacore.errors" 220), none, (.ref 71), Value.none, 0⟩), #[]⟩
noncomputable def o73 (P : Params) : Obj := ⟨(Value.type "tuple"), none, (Data.seq #[(topS "line" 272)] 0), #[]⟩
noncomputable def o74 (P : Params) : Obj := ⟨(Value.type "dict"), none, (Data.dict #[topE P "__module__" 258 (topS "adacore.errors" 220), topE P "__firstlineno__" 262 (.int (32 : Int) 261), topE P "__init__" 271 (.ref 72), topE P "__static_attributes__" 273 (.ref 73), topE P "__doc__" 274 Value.none] 2), #[]⟩
noncomputable def o75 (P : Params) : Obj := ⟨(Value.type "type"), none, (Data.cls (ClassData.mk (Str.ofString "CheckFault") [(.ref 55)] [(.ref 75), (.ref 55), (Value.type "Exception"), (Value.type "BaseException"), (Value.type "object")] 74 (Str.ofString "CheckFault") Bool.true [] [] Bool.false none Bool.false)), #[(some (.ref 59)), none, (some (topS "CheckFault" 251)), (some (topS "CheckFault" 259)), (some (Value.builtin "Exception.__new__")), (some (Value.bool Bool.true))]⟩
noncomputable def o76 (P : Params) : Obj := ⟨(Value.type "super"), none, (Data.fields #[(.ref 75), (.ref 75), (.ref 75)]), #[]⟩
noncomputable def o77 (P : Params) : Obj := ⟨(Value.type "builtin_function_or_method"), none, (Data.fields #[(Value.builtin "object.__init_subclass__"), (.ref 75)]), #[]⟩
noncomputable def treeAt4 (P : Params) : BT := (.node (boot_o_0 P) (.node (boot_o_1 P) (.node (o3at4 P) (.node (boot_o_7 P) (.node (o15 P) (.node (o31 P) (.node (o63 P) .nil .nil) .nil) (.node (o47 P) .nil .nil)) (.node (o23 P) (.node (o39 P) (.node (o71 P) .nil .nil) .nil) (.node (o55at4 P) .nil .nil))) (.node (o11 P) (.node (o19 P) (.node (o35 P) (.node (o67 P) .nil .nil) .nil) (.node (o51 P) .nil .nil)) (.node (o27 P) (.node (o43 P) (.node (o75 P) .nil .nil) .nil) (.node (o59 P) .nil .nil)))) (.node (boot_o_5 P) (.node (boot_o_9 P) (.node (o17 P) (.node (o33 P) (.node (o65 P) .nil .nil) .nil) (.node (o49 P) .nil .nil)) (.node (o25 P) (.node (o41 P) (.node (o73 P) .nil .nil) .nil) (.node (o57 P) .nil .nil))) (.node (o13 P) (.node (o21 P) (.node (o37 P) (.node (o69 P) .nil .nil) .nil) (.node (o53 P) .nil .nil)) (.node (o29 P) (.node (o45 P) (.node (o77 P) .nil .nil) .nil) (.node (o61 P) .nil .nil))))) (.node (o2at3 P) (.node (boot_o_4 P) (.node (boot_o_8 P) (.node (o16 P) (.node (o32 P) (.node (o64 P) .nil .nil) .nil) (.node (o48 P) .nil .nil)) (.node (o24 P) (.node (o40 P) (.node (o72 P) .nil .nil) .nil) (.node (o56 P) .nil .nil))) (.node (o12at4 P) (.node (o20 P) (.node (o36 P) (.node (o68 P) .nil .nil) .nil) (.node (o52 P) .nil .nil)) (.node (o28 P) (.node (o44 P) (.node (o76 P) .nil .nil) .nil) (.node (o60 P) .nil .nil)))) (.node (boot_o_6 P) (.node (boot_o_10 P) (.node (o18 P) (.node (o34 P) (.node (o66 P) .nil .nil) .nil) (.node (o50 P) .nil .nil)) (.node (o26 P) (.node (o42 P) (.node (o74 P) .nil .nil) .nil) (.node (o58 P) .nil .nil))) (.node (o14 P) (.node (o22 P) (.node (o38 P) (.node (o70 P) .nil .nil) .nil) (.node (o54 P) .nil .nil)) (.node (o30 P) (.node (o46 P) .nil .nil) (.node (o62 P) .nil .nil))))))
noncomputable def o3at5 (P : Params) : Obj := ⟨(Value.type "dict"), none, (Data.dict #[topE P "__name__" 165 (topS "adacore.entities" 351), topE P "__doc__" 166 Value.none, topE P "__package__" 167 Value.none, topE P "__loader__" 168 (Value.builtin "__main__.__loader__#opaque"), topE P "__spec__" 169 Value.none, topE P "__annotations__" 170 (.ref 6), topE P "__builtins__" 171 (.ref 4), topE P "__file__" 173 (topS "/claim/cut.py" 172), topE P "__cached__" 174 Value.none, topE P "item_name" 196 (.ref 21), topE P "named_units" 204 (.ref 26), topE P "is_body" 213 (.ref 33), topE P "unit_part" 219 (.ref 38), topE P "AdaError" 250 (.ref 55), topE P "CheckFault" 276 (.ref 75), topE P "places_of" 290 (.ref 84), topE P "needs_of" 307 (.ref 91), topE P "all_needs" 313 (.ref 96), topE P "whole_needs" 319 (.ref 101), topE P "reached_parts" 332 (.ref 108), topE P "ring_of" 338 (.ref 113), topE P "order_parts" 344 (.ref 118), topE P "ring_text" 350 (.ref 123)] 23), #[]⟩
noncomputable def o12at5 (P : Params) : Obj := ⟨Value.none, none, (Data.fields #[(.int (2 : Int) 0), (.int (0 : Int) 0), (.ref 20), (.int (8 : Int) 0), (.int (0 : Int) 0), (.ref 25), (.int (16 : Int) 0), (.int (0 : Int) 0), (.ref 32), (.int (19 : Int) 0), (.int (0 : Int) 0), (.ref 37), (.int (27 : Int) 0), (.int (0 : Int) 0), (.ref 44), (.int (32 : Int) 0), (.int (0 : Int) 0), (.ref 64), (.int (38 : Int) 0), (.int (0 : Int) 0), (.ref 83), (.int (49 : Int) 0), (.int (0 : Int) 0), (.ref 90), (.int (68 : Int) 0), (.int (0 : Int) 0), (.ref 95), (.int (72 : Int) 0), (.int (0 : Int) 0), (.ref 100), (.int (77 : Int) 0), (.int (0 : Int) 0), (.ref 107), (.int (92 : Int) 0), (.int (0 : Int) 0), (.ref 112), (.int (102 : Int) 0), (.int (0 : Int) 0), (.ref 117), (.int (119 : Int) 0), (.int (0 : Int) 0), (.ref 122)]), #[]⟩
noncomputable def o78 (P : Params) : Obj := ⟨(Value.type "tuple"), none, (Data.seq #[] 0), #[]⟩
noncomputable def o79 (P : Params) : Obj := ⟨Value.none, none, (Data.fields #[]), #[]⟩
noncomputable def o80 (P : Params) : Obj := ⟨(Value.type "tuple"), none, (Data.seq #[(topS "parts" 282), (topS "found" 283), (topS "at" 284), (topS "key" 285), (topS "name" 286), (topS "sort" 287)] 0), #[]⟩
noncomputable def o81 (P : Params) : Obj := ⟨(Value.type "tuple"), none, (Data.seq #[] 0), #[]⟩
noncomputable def o82 (P : Params) : Obj := ⟨Value.none, none, (.func ⟨(Str.ofString "places_of"), (Str.ofString "places_of"), (fnAt 10).1, .stmts (fnAt 10).2.1, (fnAt 10).2.2, 0, [], Value.none, Value.none, Value.none, Value.none, none, Value.none, Value.none, 0⟩), #[]⟩
noncomputable def o83 (P : Params) : Obj := ⟨(Value.type "code"), none, (Data.fields #[(topS "places_of" 279), (topS "places_of" 280), (topS "/claim/cut.py" 281), (.int (38 : Int) 0), (.int (1 : Int) 0), (.int (0 : Int) 0), (.int (0 : Int) 0), (.int (3 : Int) 0), (.ref 78), (Value.bool Bool.true), (.int (181 : Int) 0), (.ref 79), Value.none, (.ref 80), (.ref 81), (.ref 82), (.int (288 : Int) 0), (.int (38 : Int) 0), (topS "/claim/cut.py" 289)]), #[]⟩
noncomputable def o84 (P : Params) : Obj := ⟨(Value.type "function"), none, (.func ⟨(Str.ofString "places_of"), (Str.ofString "places_of"), (fnAt 10).1, .stmts (fnAt 10).2.1, (fnAt 10).2.2, 3, [], Value.none, Value.none, Value.none, (topS "adacore.elab" 277), none, (.ref 83), Value.none, 0⟩), #[]⟩
noncomputable def o85 (P : Params) : Obj := ⟨(Value.type "tuple"), none, (Data.seq #[] 0), #[]⟩
noncomputable def o86 (P : Params) : Obj := ⟨Value.none, none, (Data.fields #[]), #[]⟩
noncomputable def o87 (P : Params) : Obj := ⟨(Value.type "tuple"), none, (Data.seq #[(topS "parts" 294), (topS "places" 295), (topS "at" 296), (topS "name" 297), (topS "sort" 298), (topS "withs" 299), (topS "elaborates" 300), (topS "keys" 301), (topS "other" 302), (topS "found" 303), (topS "key" 304)] 0), #[]⟩
noncomputable def o88 (P : Params) : Obj := ⟨(Value.type "tuple"), none, (Data.seq #[] 0), #[]⟩
noncomputable def o89 (P : Params) : Obj := ⟨Value.none, none, (.func ⟨(Str.ofString "needs_of"), (Str.ofString "needs_of"), (fnAt 11).1, .stmts (fnAt 11).2.1, (fnAt 11).2.2, 0, [], Value.none, Value.none, Value.none, Value.none, none, Value.none, Value.none, 0⟩), #[]⟩
noncomputable def o90 (P : Params) : Obj := ⟨(Value.type "code"), none, (Data.fields #[(topS "needs_of" 291), (topS "needs_of" 292), (topS "/claim/cut.py" 293), (.int (49 : Int) 0), (.int (3 : Int) 0), (.int (0 : Int) 0), (.int (0 : Int) 0), (.int (3 : Int) 0), (.ref 85), (Value.bool Bool.true), (.int (181 : Int) 0), (.ref 86), Value.none, (.ref 87), (.ref 88), (.ref 89), (.int (305 : Int) 0), (.int (49 : Int) 0), (topS "/claim/cut.py" 306)]), #[]⟩
noncomputable def o91 (P : Params) : Obj := ⟨(Value.type "function"), none, (.func ⟨(Str.ofString "needs_of"), (Str.ofString "needs_of"), (fnAt 11).1, .stmts (fnAt 11).2.1, (fnAt 11).2.2, 3, [], Value.none, Value.none, Value.none, (topS "adacore.elab" 277), none, (.ref 90), Value.none, 0⟩), #[]⟩
noncomputable def o92 (P : Params) : Obj := ⟨(Value.type "tuple"), none, (Data.seq #[] 0), #[]⟩
noncomputable def o93 (P : Params) : Obj := ⟨Value.none, none, (Data.fields #[]), #[]⟩
noncomputable def o94 (P : Params) : Obj := ⟨Value.none, none, (.func ⟨(Str.ofString "all_needs"), (Str.ofString "all_needs"), (fnAt 12).1, .stmts (fnAt 12).2.1, (fnAt 12).2.2, 0, [], Value.none, Value.none, Value.none, Value.none, none, Value.none, Value.none, 0⟩), #[]⟩
noncomputable def o95 (P : Params) : Obj := ⟨(Value.type "code"), none, (Data.fields #[(topS "all_needs" 308), (topS "all_needs" 309), (topS "/claim/cut.py" 310), (.int (68 : Int) 0), (.int (1 : Int) 0), (.int (0 : Int) 0), (.int (0 : Int) 0), (.int (3 : Int) 0), (.ref 92), (Value.bool Bool.true), (.int (181 : Int) 0), (.ref 93), Value.none, Value.none, Value.none, (.ref 94), (.int (311 : Int) 0), (.int (68 : Int) 0), (topS "/claim/cut.py" 312)]), #[]⟩
noncomputable def o96 (P : Params) : Obj := ⟨(Value.type "function"), none, (.func ⟨(Str.ofString "all_needs"), (Str.ofString "all_needs"), (fnAt 12).1, .stmts (fnAt 12).2.1, (fnAt 12).2.2, 3, [], Value.none, Value.none, Value.none, (topS "adacore.elab" 277), none, (.ref 95), Value.none, 0⟩), #[]⟩
noncomputable def o97 (P : Params) : Obj := ⟨(Value.type "tuple"), none, (Data.seq #[] 0), #[]⟩
noncomputable def o98 (P : Params) : Obj := ⟨Value.none, none, (Data.fields #[]), #[]⟩
noncomputable def o99 (P : Params) : Obj := ⟨Value.none, none, (.func ⟨(Str.ofString "whole_needs"), (Str.ofString "whole_needs"), (fnAt 13).1, .stmts (fnAt 13).2.1, (fnAt 13).2.2, 0, [], Value.none, Value.none, Value.none, Value.none, none, Value.none, Value.none, 0⟩), #[]⟩
noncomputable def o100 (P : Params) : Obj := ⟨(Value.type "code"), none, (Data.fields #[(topS "whole_needs" 314), (topS "whole_needs" 315), (topS "/claim/cut.py" 316), (.int (72 : Int) 0), (.int (3 : Int) 0), (.int (0 : Int) 0), (.int (0 : Int) 0), (.int (3 : Int) 0), (.ref 97), (Value.bool Bool.true), (.int (181 : Int) 0), (.ref 98), Value.none, Value.none, Value.none, (.ref 99), (.int (317 : Int) 0), (.int (72 : Int) 0), (topS "/claim/cut.py" 318)]), #[]⟩
noncomputable def o101 (P : Params) : Obj := ⟨(Value.type "function"), none, (.func ⟨(Str.ofString "whole_needs"), (Str.ofString "whole_needs"), (fnAt 13).1, .stmts (fnAt 13).2.1, (fnAt 13).2.2, 3, [], Value.none, Value.none, Value.none, (topS "adacore.elab" 277), none, (.ref 100), Value.none, 0⟩), #[]⟩
noncomputable def o102 (P : Params) : Obj := ⟨(Value.type "tuple"), none, (Data.seq #[] 0), #[]⟩
noncomputable def o103 (P : Params) : Obj := ⟨Value.none, none, (Data.fields #[]), #[]⟩
noncomputable def o104 (P : Params) : Obj := ⟨(Value.type "tuple"), none, (Data.seq #[(topS "parts" 323), (topS "needs" 324), (topS "main" 325), (topS "places" 326), (topS "waiting" 327), (topS "found" 328), (topS "at" 329)] 0), #[]⟩
noncomputable def o105 (P : Params) : Obj := ⟨(Value.type "tuple"), none, (Data.seq #[] 0), #[]⟩
noncomputable def o106 (P : Params) : Obj := ⟨Value.none, none, (.func ⟨(Str.ofString "reached_parts"), (Str.ofString "reached_parts"), (fnAt 14).1, .stmts (fnAt 14).2.1, (fnAt 14).2.2, 0, [], Value.none, Value.none, Value.none, Value.none, none, Value.none, Value.none, 0⟩), #[]⟩
noncomputable def o107 (P : Params) : Obj := ⟨(Value.type "code"), none, (Data.fields #[(topS "reached_parts" 320), (topS "reached_parts" 321), (topS "/claim/cut.py" 322), (.int (77 : Int) 0), (.int (3 : Int) 0), (.int (0 : Int) 0), (.int (0 : Int) 0), (.int (3 : Int) 0), (.ref 102), (Value.bool Bool.true), (.int (181 : Int) 0), (.ref 103), Value.none, (.ref 104), (.ref 105), (.ref 106), (.int (330 : Int) 0), (.int (77 : Int) 0), (topS "/claim/cut.py" 331)]), #[]⟩
noncomputable def o108 (P : Params) : Obj := ⟨(Value.type "function"), none, (.func ⟨(Str.ofString "reached_parts"), (Str.ofString "reached_parts"), (fnAt 14).1, .stmts (fnAt 14).2.1, (fnAt 14).2.2, 3, [], Value.none, Value.none, Value.none, (topS "adacore.elab" 277), none, (.ref 107), Value.none, 0⟩), #[]⟩
noncomputable def o109 (P : Params) : Obj := ⟨(Value.type "tuple"), none, (Data.seq #[] 0), #[]⟩
noncomputable def o110 (P : Params) : Obj := ⟨Value.none, none, (Data.fields #[]), #[]⟩
noncomputable def o111 (P : Params) : Obj := ⟨Value.none, none, (.func ⟨(Str.ofString "ring_of"), (Str.ofString "ring_of"), (fnAt 15).1, .stmts (fnAt 15).2.1, (fnAt 15).2.2, 0, [], Value.none, Value.none, Value.none, Value.none, none, Value.none, Value.none, 0⟩), #[]⟩
noncomputable def o112 (P : Params) : Obj := ⟨(Value.type "code"), none, (Data.fields #[(topS "ring_of" 333), (topS "ring_of" 334), (topS "/claim/cut.py" 335), (.int (92 : Int) 0), (.int (2 : Int) 0), (.int (0 : Int) 0), (.int (0 : Int) 0), (.int (3 : Int) 0), (.ref 109), (Value.bool Bool.true), (.int (181 : Int) 0), (.ref 110), Value.none, Value.none, Value.none, (.ref 111), (.int (336 : Int) 0), (.int (92 : Int) 0), (topS "/claim/cut.py" 337)]), #[]⟩
noncomputable def o113 (P : Params) : Obj := ⟨(Value.type "function"), none, (.func ⟨(Str.ofString "ring_of"), (Str.ofString "ring_of"), (fnAt 15).1, .stmts (fnAt 15).2.1, (fnAt 15).2.2, 3, [], Value.none, Value.none, Value.none, (topS "adacore.elab" 277), none, (.ref 112), Value.none, 0⟩), #[]⟩
noncomputable def o114 (P : Params) : Obj := ⟨(Value.type "tuple"), none, (Data.seq #[] 0), #[]⟩
noncomputable def o115 (P : Params) : Obj := ⟨Value.none, none, (Data.fields #[]), #[]⟩
noncomputable def o116 (P : Params) : Obj := ⟨Value.none, none, (.func ⟨(Str.ofString "order_parts"), (Str.ofString "order_parts"), (fnAt 16).1, .stmts (fnAt 16).2.1, (fnAt 16).2.2, 0, [], Value.none, Value.none, Value.none, Value.none, none, Value.none, Value.none, 0⟩), #[]⟩
noncomputable def o117 (P : Params) : Obj := ⟨(Value.type "code"), none, (Data.fields #[(topS "order_parts" 339), (topS "order_parts" 340), (topS "/claim/cut.py" 341), (.int (102 : Int) 0), (.int (2 : Int) 0), (.int (0 : Int) 0), (.int (0 : Int) 0), (.int (3 : Int) 0), (.ref 114), (Value.bool Bool.true), (.int (181 : Int) 0), (.ref 115), Value.none, Value.none, Value.none, (.ref 116), (.int (342 : Int) 0), (.int (102 : Int) 0), (topS "/claim/cut.py" 343)]), #[]⟩
noncomputable def o118 (P : Params) : Obj := ⟨(Value.type "function"), none, (.func ⟨(Str.ofString "order_parts"), (Str.ofString "order_parts"), (fnAt 16).1, .stmts (fnAt 16).2.1, (fnAt 16).2.2, 3, [], Value.none, Value.none, Value.none, (topS "adacore.elab" 277), none, (.ref 117), Value.none, 0⟩), #[]⟩
noncomputable def o119 (P : Params) : Obj := ⟨(Value.type "tuple"), none, (Data.seq #[] 0), #[]⟩
noncomputable def o120 (P : Params) : Obj := ⟨Value.none, none, (Data.fields #[]), #[]⟩
noncomputable def o121 (P : Params) : Obj := ⟨Value.none, none, (.func ⟨(Str.ofString "ring_text"), (Str.ofString "ring_text"), (fnAt 17).1, .stmts (fnAt 17).2.1, (fnAt 17).2.2, 0, [], Value.none, Value.none, Value.none, Value.none, none, Value.none, Value.none, 0⟩), #[]⟩
noncomputable def o122 (P : Params) : Obj := ⟨(Value.type "code"), none, (Data.fields #[(topS "ring_text" 345), (topS "ring_text" 346), (topS "/claim/cut.py" 347), (.int (119 : Int) 0), (.int (2 : Int) 0), (.int (0 : Int) 0), (.int (0 : Int) 0), (.int (3 : Int) 0), (.ref 119), (Value.bool Bool.true), (.int (181 : Int) 0), (.ref 120), Value.none, Value.none, Value.none, (.ref 121), (.int (348 : Int) 0), (.int (119 : Int) 0), (topS "/claim/cut.py" 349)]), #[]⟩
noncomputable def o123 (P : Params) : Obj := ⟨(Value.type "function"), none, (.func ⟨(Str.ofString "ring_text"), (Str.ofString "ring_text"), (fnAt 17).1, .stmts (fnAt 17).2.1, (fnAt 17).2.2, 3, [], Value.none, Value.none, Value.none, (topS "adacore.elab" 277), none, (.ref 122), Value.none, 0⟩), #[]⟩
noncomputable def treeAt5 (P : Params) : BT := (.node (boot_o_0 P) (.node (boot_o_1 P) (.node (o3at5 P) (.node (boot_o_7 P) (.node (o15 P) (.node (o31 P) (.node (o63 P) .nil .nil) (.node (o95 P) .nil .nil)) (.node (o47 P) (.node (o79 P) .nil .nil) (.node (o111 P) .nil .nil))) (.node (o23 P) (.node (o39 P) (.node (o71 P) .nil .nil) (.node (o103 P) .nil .nil)) (.node (o55at4 P) (.node (o87 P) .nil .nil) (.node (o119 P) .nil .nil)))) (.node (o11 P) (.node (o19 P) (.node (o35 P) (.node (o67 P) .nil .nil) (.node (o99 P) .nil .nil)) (.node (o51 P) (.node (o83 P) .nil .nil) (.node (o115 P) .nil .nil))) (.node (o27 P) (.node (o43 P) (.node (o75 P) .nil .nil) (.node (o107 P) .nil .nil)) (.node (o59 P) (.node (o91 P) .nil .nil) (.node (o123 P) .nil .nil))))) (.node (boot_o_5 P) (.node (boot_o_9 P) (.node (o17 P) (.node (o33 P) (.node (o65 P) .nil .nil) (.node (o97 P) .nil .nil)) (.node (o49 P) (.node (o81 P) .nil .nil) (.node (o113 P) .nil .nil))) (.node (o25 P) (.node (o41 P) (.node (o73 P) .nil .nil) (.node (o105 P) .nil .nil)) (.node (o57 P) (.node (o89 P) .nil .nil) (.node (o121 P) .nil .nil)))) (.node (o13 P) (.node (o21 P) (.node (o37 P) (.node (o69 P) .nil .nil) (.node (o101 P) .nil .nil)) (.node (o53 P) (.node (o85 P) .nil .nil) (.node (o117 P) .nil .nil))) (.node (o29 P) (.node (o45 P) (.node (o77 P) .nil .nil) (.node (o109 P) .nil .nil)) (.node (o61 P) (.node (o93 P) .nil .nil) .nil))))) (.node (o2at3 P) (.node (boot_o_4 P) (.node (boot_o_8 P) (.node (o16 P) (.node (o32 P) (.node (o64 P) .nil .nil) (.node (o96 P) .nil .nil)) (.node (o48 P) (.node (o80 P) .nil .nil) (.node (o112 P) .nil .nil))) (.node (o24 P) (.node (o40 P) (.node (o72 P) .nil .nil) (.node (o104 P) .nil .nil)) (.node (o56 P) (.node (o88 P) .nil .nil) (.node (o120 P) .nil .nil)))) (.node (o12at5 P) (.node (o20 P) (.node (o36 P) (.node (o68 P) .nil .nil) (.node (o100 P) .nil .nil)) (.node (o52 P) (.node (o84 P) .nil .nil) (.node (o116 P) .nil .nil))) (.node (o28 P) (.node (o44 P) (.node (o76 P) .nil .nil) (.node (o108 P) .nil .nil)) (.node (o60 P) (.node (o92 P) .nil .nil) .nil)))) (.node (boot_o_6 P) (.node (boot_o_10 P) (.node (o18 P) (.node (o34 P) (.node (o66 P) .nil .nil) (.node (o98 P) .nil .nil)) (.node (o50 P) (.node (o82 P) .nil .nil) (.node (o114 P) .nil .nil))) (.node (o26 P) (.node (o42 P) (.node (o74 P) .nil .nil) (.node (o106 P) .nil .nil)) (.node (o58 P) (.node (o90 P) .nil .nil) (.node (o122 P) .nil .nil)))) (.node (o14 P) (.node (o22 P) (.node (o38 P) (.node (o70 P) .nil .nil) (.node (o102 P) .nil .nil)) (.node (o54 P) (.node (o86 P) .nil .nil) (.node (o118 P) .nil .nil))) (.node (o30 P) (.node (o46 P) (.node (o78 P) .nil .nil) (.node (o110 P) .nil .nil)) (.node (o62 P) (.node (o94 P) .nil .nil) .nil))))))
noncomputable def o3at6 (P : Params) : Obj := ⟨(Value.type "dict"), none, (Data.dict #[topE P "__name__" 165 (topS "adacore.entities" 351), topE P "__doc__" 166 Value.none, topE P "__package__" 167 Value.none, topE P "__loader__" 168 (Value.builtin "__main__.__loader__#opaque"), topE P "__spec__" 169 Value.none, topE P "__annotations__" 170 (.ref 6), topE P "__builtins__" 171 (.ref 4), topE P "__file__" 173 (topS "/claim/cut.py" 172), topE P "__cached__" 174 Value.none, topE P "item_name" 196 (.ref 21), topE P "named_units" 204 (.ref 26), topE P "is_body" 213 (.ref 33), topE P "unit_part" 219 (.ref 38), topE P "AdaError" 250 (.ref 55), topE P "CheckFault" 276 (.ref 75), topE P "places_of" 290 (.ref 84), topE P "needs_of" 307 (.ref 91), topE P "all_needs" 313 (.ref 96), topE P "whole_needs" 319 (.ref 101), topE P "reached_parts" 332 (.ref 108), topE P "ring_of" 338 (.ref 113), topE P "order_parts" 344 (.ref 118), topE P "ring_text" 350 (.ref 123), topE P "Entity" 402 (.ref 140)] 24), #[]⟩
noncomputable def o12at6 (P : Params) : Obj := ⟨Value.none, none, (Data.fields #[(.int (2 : Int) 0), (.int (0 : Int) 0), (.ref 20), (.int (8 : Int) 0), (.int (0 : Int) 0), (.ref 25), (.int (16 : Int) 0), (.int (0 : Int) 0), (.ref 32), (.int (19 : Int) 0), (.int (0 : Int) 0), (.ref 37), (.int (27 : Int) 0), (.int (0 : Int) 0), (.ref 44), (.int (32 : Int) 0), (.int (0 : Int) 0), (.ref 64), (.int (38 : Int) 0), (.int (0 : Int) 0), (.ref 83), (.int (49 : Int) 0), (.int (0 : Int) 0), (.ref 90), (.int (68 : Int) 0), (.int (0 : Int) 0), (.ref 95), (.int (72 : Int) 0), (.int (0 : Int) 0), (.ref 100), (.int (77 : Int) 0), (.int (0 : Int) 0), (.ref 107), (.int (92 : Int) 0), (.int (0 : Int) 0), (.ref 112), (.int (102 : Int) 0), (.int (0 : Int) 0), (.ref 117), (.int (119 : Int) 0), (.int (0 : Int) 0), (.ref 122), (.int (122 : Int) 0), (.int (0 : Int) 0), (.ref 129)]), #[]⟩
noncomputable def o124 (P : Params) : Obj := ⟨(Value.type "tuple"), none, (Data.seq #[] 0), #[]⟩
noncomputable def o125 (P : Params) : Obj := ⟨(Value.type "builtin_function_or_method"), none, (Data.fields #[(Value.builtin "type.__prepare__"), (Value.type "type")]), #[]⟩
noncomputable def o126 (P : Params) : Obj := ⟨(Value.type "dict"), none, (Data.dict #[topE P "__module__" 360 (topS "adacore.entities" 351), topE P "__qualname__" 362 (topS "Entity" 361), topE P "__firstlineno__" 364 (.int (122 : Int) 363), topE P "__init__" 377 (.ref 137), topE P "__static_attributes__" 395 (.ref 138)] 5), #[]⟩
noncomputable def o127 (P : Params) : Obj := ⟨(Value.type "tuple"), none, (Data.seq #[] 0), #[]⟩
noncomputable def o128 (P : Params) : Obj := ⟨Value.none, none, (Data.fields #[(.int (124 : Int) 0), (.int (4 : Int) 0), (.ref 136)]), #[]⟩
noncomputable def o129 (P : Params) : Obj := ⟨(Value.type "code"), none, (Data.fields #[(topS "Entity" 355), (topS "Entity" 356), (topS "/claim/cut.py" 357), (.int (122 : Int) 0), (.int (0 : Int) 0), (.int (0 : Int) 0), (.int (0 : Int) 0), (.int (0 : Int) 0), (.ref 127), (Value.bool Bool.false), (.int (181 : Int) 0), (.ref 128), Value.none, Value.none, Value.none, Value.none, (.int (358 : Int) 0), (.int (122 : Int) 0), (topS "/claim/cut.py" 359)]), #[]⟩
noncomputable def o130 (P : Params) : Obj := ⟨(Value.type "frame"), none, Data.plain, #[(some (.ref 129)), (some (.ref 3)), (some (.ref 126)), none, (some (topS "adacore.entities" 351)), none, (some (.ref 0))]⟩
noncomputable def o131 (P : Params) : Obj := ⟨(Value.type "tuple"), none, (Data.seq #[] 0), #[]⟩
noncomputable def o132 (P : Params) : Obj := ⟨Value.none, none, (Data.fields #[]), #[]⟩
noncomputable def o133 (P : Params) : Obj := ⟨(Value.type "tuple"), none, (Data.seq #[(topS "self" 368), (topS "kind" 369), (topS "name" 370), (topS "key" 371), (topS "subtype" 372), (topS "data" 373), (topS "line" 374)] 0), #[]⟩
noncomputable def o134 (P : Params) : Obj := ⟨(Value.type "tuple"), none, (Data.seq #[] 0), #[]⟩
noncomputable def o135 (P : Params) : Obj := ⟨Value.none, none, (.func ⟨(Str.ofString "__init__"), (Str.ofString "Entity.__init__"), (methAt 19).1, .stmts (methAt 19).2.1, (methAt 19).2.2, 0, [], Value.none, Value.none, Value.none, Value.none, none, Value.none, Value.none, 0⟩), #[]⟩
noncomputable def o136 (P : Params) : Obj := ⟨(Value.type "code"), none, (Data.fields #[(topS "__init__" 365), (topS "Entity.__init__" 366), (topS "/claim/cut.py" 367), (.int (124 : Int) 0), (.int (7 : Int) 0), (.int (0 : Int) 0), (.int (0 : Int) 0), (.int (3 : Int) 0), (.ref 131), (Value.bool Bool.true), (.int (181 : Int) 0), (.ref 132), Value.none, (.ref 133), (.ref 134), (.ref 135), (.int (375 : Int) 0), (.int (124 : Int) 0), (topS "/claim/cut.py" 376)]), #[]⟩
noncomputable def o137 (P : Params) : Obj := ⟨(Value.type "function"), none, (.func ⟨(Str.ofString "__init__"), (Str.ofString "Entity.__init__"), (methAt 19).1, .stmts (methAt 19).2.1, (methAt 19).2.2, 3, [], Value.none, Value.none, Value.none, (topS "adacore.entities" 351), none, (.ref 136), Value.none, 0⟩), #[]⟩
noncomputable def o138 (P : Params) : Obj := ⟨(Value.type "tuple"), none, (Data.seq #[(topS "data" 378), (topS "full" 379), (topS "home" 380), (topS "is_complete" 381), (topS "is_constant" 382), (topS "is_implicit" 383), (topS "is_overridden" 384), (topS "is_ready" 385), (topS "key" 386), (topS "kind" 387), (topS "line" 388), (topS "name" 389), (topS "number" 390), (topS "part" 391), (topS "region" 392), (topS "subtype" 393), (topS "unique" 394)] 0), #[]⟩
noncomputable def o139 (P : Params) : Obj := ⟨(Value.type "dict"), none, (Data.dict #[topE P "__module__" 360 (topS "adacore.entities" 351), topE P "__firstlineno__" 364 (.int (122 : Int) 363), topE P "__init__" 377 (.ref 137), topE P "__static_attributes__" 395 (.ref 138), topE P "__dict__" 397 (.ref 141), topE P "__weakref__" 399 (.ref 142), topE P "__doc__" 400 Value.none] 4), #[]⟩
noncomputable def o140 (P : Params) : Obj := ⟨(Value.type "type"), none, (Data.cls (ClassData.mk (Str.ofString "Entity") [(Value.type "object")] [(.ref 140), (Value.type "object")] 139 (Str.ofString "Entity") Bool.true [] [] Bool.false none Bool.false)), #[none, none, (some (topS "Entity" 353)), (some (topS "Entity" 361)), (some (Value.builtin "object.__new__")), (some (Value.bool Bool.true))]⟩
noncomputable def o141 (P : Params) : Obj := ⟨(Value.type "getset_descriptor"), none, (Data.fields #[(topS "__dict__" 396), (.ref 140), (Value.builtin "function.__dict__"), (Value.builtin "function.__dict__#set")]), #[]⟩
noncomputable def o142 (P : Params) : Obj := ⟨(Value.type "getset_descriptor"), none, (Data.fields #[(topS "__weakref__" 398), (.ref 140), (Value.builtin "ExceptionGroup.__weakref__"), Value.none]), #[]⟩
noncomputable def o143 (P : Params) : Obj := ⟨(Value.type "super"), none, (Data.fields #[(.ref 140), (.ref 140), (.ref 140)]), #[]⟩
noncomputable def o144 (P : Params) : Obj := ⟨(Value.type "builtin_function_or_method"), none, (Data.fields #[(Value.builtin "object.__init_subclass__"), (.ref 140)]), #[]⟩
noncomputable def treeAt6 (P : Params) : BT := (.node (boot_o_0 P) (.node (boot_o_1 P) (.node (o3at6 P) (.node (boot_o_7 P) (.node (o15 P) (.node (o31 P) (.node (o63 P) (.node (o127 P) .nil .nil) .nil) (.node (o95 P) .nil .nil)) (.node (o47 P) (.node (o79 P) (.node (o143 P) .nil .nil) .nil) (.node (o111 P) .nil .nil))) (.node (o23 P) (.node (o39 P) (.node (o71 P) (.node (o135 P) .nil .nil) .nil) (.node (o103 P) .nil .nil)) (.node (o55at4 P) (.node (o87 P) .nil .nil) (.node (o119 P) .nil .nil)))) (.node (o11 P) (.node (o19 P) (.node (o35 P) (.node (o67 P) (.node (o131 P) .nil .nil) .nil) (.node (o99 P) .nil .nil)) (.node (o51 P) (.node (o83 P) .nil .nil) (.node (o115 P) .nil .nil))) (.node (o27 P) (.node (o43 P) (.node (o75 P) (.node (o139 P) .nil .nil) .nil) (.node (o107 P) .nil .nil)) (.node (o59 P) (.node (o91 P) .nil .nil) (.node (o123 P) .nil .nil))))) (.node (boot_o_5 P) (.node (boot_o_9 P) (.node (o17 P) (.node (o33 P) (.node (o65 P) (.node (o129 P) .nil .nil) .nil) (.node (o97 P) .nil .nil)) (.node (o49 P) (.node (o81 P) .nil .nil) (.node (o113 P) .nil .nil))) (.node (o25 P) (.node (o41 P) (.node (o73 P) (.node (o137 P) .nil .nil) .nil) (.node (o105 P) .nil .nil)) (.node (o57 P) (.node (o89 P) .nil .nil) (.node (o121 P) .nil .nil)))) (.node (o13 P) (.node (o21 P) (.node (o37 P) (.node (o69 P) (.node (o133 P) .nil .nil) .nil) (.node (o101 P) .nil .nil)) (.node (o53 P) (.node (o85 P) .nil .nil) (.node (o117 P) .nil .nil))) (.node (o29 P) (.node (o45 P) (.node (o77 P) (.node (o141 P) .nil .nil) .nil) (.node (o109 P) .nil .nil)) (.node (o61 P) (.node (o93 P) .nil .nil) (.node (o125 P) .nil .nil)))))) (.node (o2at3 P) (.node (boot_o_4 P) (.node (boot_o_8 P) (.node (o16 P) (.node (o32 P) (.node (o64 P) (.node (o128 P) .nil .nil) .nil) (.node (o96 P) .nil .nil)) (.node (o48 P) (.node (o80 P) (.node (o144 P) .nil .nil) .nil) (.node (o112 P) .nil .nil))) (.node (o24 P) (.node (o40 P) (.node (o72 P) (.node (o136 P) .nil .nil) .nil) (.node (o104 P) .nil .nil)) (.node (o56 P) (.node (o88 P) .nil .nil) (.node (o120 P) .nil .nil)))) (.node (o12at6 P) (.node (o20 P) (.node (o36 P) (.node (o68 P) (.node (o132 P) .nil .nil) .nil) (.node (o100 P) .nil .nil)) (.node (o52 P) (.node (o84 P) .nil .nil) (.node (o116 P) .nil .nil))) (.node (o28 P) (.node (o44 P) (.node (o76 P) (.node (o140 P) .nil .nil) .nil) (.node (o108 P) .nil .nil)) (.node (o60 P) (.node (o92 P) .nil .nil) (.node (o124 P) .nil .nil))))) (.node (boot_o_6 P) (.node (boot_o_10 P) (.node (o18 P) (.node (o34 P) (.node (o66 P) (.node (o130 P) .nil .nil) .nil) (.node (o98 P) .nil .nil)) (.node (o50 P) (.node (o82 P) .nil .nil) (.node (o114 P) .nil .nil))) (.node (o26 P) (.node (o42 P) (.node (o74 P) (.node (o138 P) .nil .nil) .nil) (.node (o106 P) .nil .nil)) (.node (o58 P) (.node (o90 P) .nil .nil) (.node (o122 P) .nil .nil)))) (.node (o14 P) (.node (o22 P) (.node (o38 P) (.node (o70 P) (.node (o134 P) .nil .nil) .nil) (.node (o102 P) .nil .nil)) (.node (o54 P) (.node (o86 P) .nil .nil) (.node (o118 P) .nil .nil))) (.node (o30 P) (.node (o46 P) (.node (o78 P) (.node (o142 P) .nil .nil) .nil) (.node (o110 P) .nil .nil)) (.node (o62 P) (.node (o94 P) .nil .nil) (.node (o126 P) .nil .nil)))))))
noncomputable def o3at7 (P : Params) : Obj := ⟨(Value.type "dict"), none, (Data.dict #[topE P "__name__" 165 (topS "law_pp0002_01" 403), topE P "__doc__" 166 Value.none, topE P "__package__" 167 Value.none, topE P "__loader__" 168 (Value.builtin "__main__.__loader__#opaque"), topE P "__spec__" 169 Value.none, topE P "__annotations__" 170 (.ref 6), topE P "__builtins__" 171 (.ref 4), topE P "__file__" 173 (topS "/claim/cut.py" 172), topE P "__cached__" 174 Value.none, topE P "item_name" 196 (.ref 21), topE P "named_units" 204 (.ref 26), topE P "is_body" 213 (.ref 33), topE P "unit_part" 219 (.ref 38), topE P "AdaError" 250 (.ref 55), topE P "CheckFault" 276 (.ref 75), topE P "places_of" 290 (.ref 84), topE P "needs_of" 307 (.ref 91), topE P "all_needs" 313 (.ref 96), topE P "whole_needs" 319 (.ref 101), topE P "reached_parts" 332 (.ref 108), topE P "ring_of" 338 (.ref 113), topE P "order_parts" 344 (.ref 118), topE P "ring_text" 350 (.ref 123), topE P "Entity" 402 (.ref 140), topE P "_law_tick" 412 (.ref 151), topE P "_law_word" 419 (.ref 158), topE P "_law_clauses" 437 (.ref 165), topE P "_law_text" 454 (.ref 172), topE P "_law_walk" 466 (.ref 179), topE P "_law_due" 472 (.ref 184), topE P "law" 478 (.ref 189)] 31), #[]⟩
noncomputable def o12at7 (P : Params) : Obj := ⟨Value.none, none, (Data.fields #[(.int (2 : Int) 0), (.int (0 : Int) 0), (.ref 20), (.int (8 : Int) 0), (.int (0 : Int) 0), (.ref 25), (.int (16 : Int) 0), (.int (0 : Int) 0), (.ref 32), (.int (19 : Int) 0), (.int (0 : Int) 0), (.ref 37), (.int (27 : Int) 0), (.int (0 : Int) 0), (.ref 44), (.int (32 : Int) 0), (.int (0 : Int) 0), (.ref 64), (.int (38 : Int) 0), (.int (0 : Int) 0), (.ref 83), (.int (49 : Int) 0), (.int (0 : Int) 0), (.ref 90), (.int (68 : Int) 0), (.int (0 : Int) 0), (.ref 95), (.int (72 : Int) 0), (.int (0 : Int) 0), (.ref 100), (.int (77 : Int) 0), (.int (0 : Int) 0), (.ref 107), (.int (92 : Int) 0), (.int (0 : Int) 0), (.ref 112), (.int (102 : Int) 0), (.int (0 : Int) 0), (.ref 117), (.int (119 : Int) 0), (.int (0 : Int) 0), (.ref 122), (.int (122 : Int) 0), (.int (0 : Int) 0), (.ref 129), (.int (143 : Int) 0), (.int (0 : Int) 0), (.ref 150), (.int (148 : Int) 0), (.int (0 : Int) 0), (.ref 157), (.int (150 : Int) 0), (.int (0 : Int) 0), (.ref 164), (.int (170 : Int) 0), (.int (0 : Int) 0), (.ref 171), (.int (183 : Int) 0), (.int (0 : Int) 0), (.ref 178), (.int (193 : Int) 0), (.int (0 : Int) 0), (.ref 183), (.int (212 : Int) 0), (.int (0 : Int) 0), (.ref 188)]), #[]⟩
noncomputable def o145 (P : Params) : Obj := ⟨(Value.type "tuple"), none, (Data.seq #[] 0), #[]⟩
noncomputable def o146 (P : Params) : Obj := ⟨Value.none, none, (Data.fields #[]), #[]⟩
noncomputable def o147 (P : Params) : Obj := ⟨(Value.type "tuple"), none, (Data.seq #[(topS "clock" 408), (topS "sides" 409)] 0), #[]⟩
noncomputable def o148 (P : Params) : Obj := ⟨(Value.type "tuple"), none, (Data.seq #[] 0), #[]⟩
noncomputable def o149 (P : Params) : Obj := ⟨Value.none, none, (.func ⟨(Str.ofString "_law_tick"), (Str.ofString "_law_tick"), (fnAt 21).1, .stmts (fnAt 21).2.1, (fnAt 21).2.2, 0, [], Value.none, Value.none, Value.none, Value.none, none, Value.none, Value.none, 0⟩), #[]⟩
noncomputable def o150 (P : Params) : Obj := ⟨(Value.type "code"), none, (Data.fields #[(topS "_law_tick" 405), (topS "_law_tick" 406), (topS "/claim/cut.py" 407), (.int (143 : Int) 0), (.int (2 : Int) 0), (.int (0 : Int) 0), (.int (0 : Int) 0), (.int (3 : Int) 0), (.ref 145), (Value.bool Bool.true), (.int (181 : Int) 0), (.ref 146), Value.none, (.ref 147), (.ref 148), (.ref 149), (.int (410 : Int) 0), (.int (143 : Int) 0), (topS "/claim/cut.py" 411)]), #[]⟩
noncomputable def o151 (P : Params) : Obj := ⟨(Value.type "function"), none, (.func ⟨(Str.ofString "_law_tick"), (Str.ofString "_law_tick"), (fnAt 21).1, .stmts (fnAt 21).2.1, (fnAt 21).2.2, 3, [], Value.none, Value.none, Value.none, (topS "law_pp0002_01" 403), none, (.ref 150), Value.none, 0⟩), #[]⟩
noncomputable def o152 (P : Params) : Obj := ⟨(Value.type "tuple"), none, (Data.seq #[] 0), #[]⟩
noncomputable def o153 (P : Params) : Obj := ⟨Value.none, none, (Data.fields #[]), #[]⟩
noncomputable def o154 (P : Params) : Obj := ⟨(Value.type "tuple"), none, (Data.seq #[(topS "unit" 416)] 0), #[]⟩
noncomputable def o155 (P : Params) : Obj := ⟨(Value.type "tuple"), none, (Data.seq #[] 0), #[]⟩
noncomputable def o156 (P : Params) : Obj := ⟨Value.none, none, (.func ⟨(Str.ofString "_law_word"), (Str.ofString "_law_word"), (fnAt 22).1, .stmts (fnAt 22).2.1, (fnAt 22).2.2, 0, [], Value.none, Value.none, Value.none, Value.none, none, Value.none, Value.none, 0⟩), #[]⟩
noncomputable def o157 (P : Params) : Obj := ⟨(Value.type "code"), none, (Data.fields #[(topS "_law_word" 413), (topS "_law_word" 414), (topS "/claim/cut.py" 415), (.int (148 : Int) 0), (.int (1 : Int) 0), (.int (0 : Int) 0), (.int (0 : Int) 0), (.int (3 : Int) 0), (.ref 152), (Value.bool Bool.true), (.int (181 : Int) 0), (.ref 153), Value.none, (.ref 154), (.ref 155), (.ref 156), (.int (417 : Int) 0), (.int (148 : Int) 0), (topS "/claim/cut.py" 418)]), #[]⟩
noncomputable def o158 (P : Params) : Obj := ⟨(Value.type "function"), none, (.func ⟨(Str.ofString "_law_word"), (Str.ofString "_law_word"), (fnAt 22).1, .stmts (fnAt 22).2.1, (fnAt 22).2.2, 3, [], Value.none, Value.none, Value.none, (topS "law_pp0002_01" 403), none, (.ref 157), Value.none, 0⟩), #[]⟩
noncomputable def o159 (P : Params) : Obj := ⟨(Value.type "tuple"), none, (Data.seq #[] 0), #[]⟩
noncomputable def o160 (P : Params) : Obj := ⟨Value.none, none, (Data.fields #[]), #[]⟩
noncomputable def o161 (P : Params) : Obj := ⟨(Value.type "tuple"), none, (Data.seq #[(topS "clock" 423), (topS "here" 424), (topS "count" 425), (topS "context" 426), (topS "told" 427), (topS "firsts" 428), (topS "wholes" 429), (topS "turn" 430), (topS "other" 431), (topS "way" 432), (topS "node" 433), (topS "parts" 434)] 0), #[]⟩
noncomputable def o162 (P : Params) : Obj := ⟨(Value.type "tuple"), none, (Data.seq #[] 0), #[]⟩
noncomputable def o163 (P : Params) : Obj := ⟨Value.none, none, (.func ⟨(Str.ofString "_law_clauses"), (Str.ofString "_law_clauses"), (fnAt 23).1, .stmts (fnAt 23).2.1, (fnAt 23).2.2, 0, [], Value.none, Value.none, Value.none, Value.none, none, Value.none, Value.none, 0⟩), #[]⟩
noncomputable def o164 (P : Params) : Obj := ⟨(Value.type "code"), none, (Data.fields #[(topS "_law_clauses" 420), (topS "_law_clauses" 421), (topS "/claim/cut.py" 422), (.int (150 : Int) 0), (.int (3 : Int) 0), (.int (0 : Int) 0), (.int (0 : Int) 0), (.int (3 : Int) 0), (.ref 159), (Value.bool Bool.true), (.int (181 : Int) 0), (.ref 160), Value.none, (.ref 161), (.ref 162), (.ref 163), (.int (435 : Int) 0), (.int (150 : Int) 0), (topS "/claim/cut.py" 436)]), #[]⟩
noncomputable def o165 (P : Params) : Obj := ⟨(Value.type "function"), none, (.func ⟨(Str.ofString "_law_clauses"), (Str.ofString "_law_clauses"), (fnAt 23).1, .stmts (fnAt 23).2.1, (fnAt 23).2.2, 3, [], Value.none, Value.none, Value.none, (topS "law_pp0002_01" 403), none, (.ref 164), Value.none, 0⟩), #[]⟩
noncomputable def o166 (P : Params) : Obj := ⟨(Value.type "tuple"), none, (Data.seq #[] 0), #[]⟩
noncomputable def o167 (P : Params) : Obj := ⟨Value.none, none, (Data.fields #[]), #[]⟩
noncomputable def o168 (P : Params) : Obj := ⟨(Value.type "tuple"), none, (Data.seq #[(topS "clock" 441), (topS "count" 442), (topS "rows" 443), (topS "here" 444), (topS "sort" 445), (topS "context" 446), (topS "told" 447), (topS "firsts" 448), (topS "wholes" 449), (topS "item" 450), (topS "row" 451)] 0), #[]⟩
noncomputable def o169 (P : Params) : Obj := ⟨(Value.type "tuple"), none, (Data.seq #[] 0), #[]⟩
noncomputable def o170 (P : Params) : Obj := ⟨Value.none, none, (.func ⟨(Str.ofString "_law_text"), (Str.ofString "_law_text"), (fnAt 24).1, .stmts (fnAt 24).2.1, (fnAt 24).2.2, 0, [], Value.none, Value.none, Value.none, Value.none, none, Value.none, Value.none, 0⟩), #[]⟩
noncomputable def o171 (P : Params) : Obj := ⟨(Value.type "code"), none, (Data.fields #[(topS "_law_text" 438), (topS "_law_text" 439), (topS "/claim/cut.py" 440), (.int (170 : Int) 0), (.int (2 : Int) 0), (.int (0 : Int) 0), (.int (0 : Int) 0), (.int (3 : Int) 0), (.ref 166), (Value.bool Bool.true), (.int (181 : Int) 0), (.ref 167), Value.none, (.ref 168), (.ref 169), (.ref 170), (.int (452 : Int) 0), (.int (170 : Int) 0), (topS "/claim/cut.py" 453)]), #[]⟩
noncomputable def o172 (P : Params) : Obj := ⟨(Value.type "function"), none, (.func ⟨(Str.ofString "_law_text"), (Str.ofString "_law_text"), (fnAt 24).1, .stmts (fnAt 24).2.1, (fnAt 24).2.2, 3, [], Value.none, Value.none, Value.none, (topS "law_pp0002_01" 403), none, (.ref 171), Value.none, 0⟩), #[]⟩
noncomputable def o173 (P : Params) : Obj := ⟨(Value.type "tuple"), none, (Data.seq #[] 0), #[]⟩
noncomputable def o174 (P : Params) : Obj := ⟨Value.none, none, (Data.fields #[]), #[]⟩
noncomputable def o175 (P : Params) : Obj := ⟨(Value.type "tuple"), none, (Data.seq #[(topS "ahead" 458), (topS "begun" 459), (topS "found" 460), (topS "at" 461), (topS "key" 462), (topS "other" 463)] 0), #[]⟩
noncomputable def o176 (P : Params) : Obj := ⟨(Value.type "tuple"), none, (Data.seq #[] 0), #[]⟩
noncomputable def o177 (P : Params) : Obj := ⟨Value.none, none, (.func ⟨(Str.ofString "_law_walk"), (Str.ofString "_law_walk"), (fnAt 25).1, .stmts (fnAt 25).2.1, (fnAt 25).2.2, 0, [], Value.none, Value.none, Value.none, Value.none, none, Value.none, Value.none, 0⟩), #[]⟩
noncomputable def o178 (P : Params) : Obj := ⟨(Value.type "code"), none, (Data.fields #[(topS "_law_walk" 455), (topS "_law_walk" 456), (topS "/claim/cut.py" 457), (.int (183 : Int) 0), (.int (2 : Int) 0), (.int (0 : Int) 0), (.int (0 : Int) 0), (.int (3 : Int) 0), (.ref 173), (Value.bool Bool.true), (.int (181 : Int) 0), (.ref 174), Value.none, (.ref 175), (.ref 176), (.ref 177), (.int (464 : Int) 0), (.int (183 : Int) 0), (topS "/claim/cut.py" 465)]), #[]⟩
noncomputable def o179 (P : Params) : Obj := ⟨(Value.type "function"), none, (.func ⟨(Str.ofString "_law_walk"), (Str.ofString "_law_walk"), (fnAt 25).1, .stmts (fnAt 25).2.1, (fnAt 25).2.2, 3, [], Value.none, Value.none, Value.none, (topS "law_pp0002_01" 403), none, (.ref 178), Value.none, 0⟩), #[]⟩
noncomputable def o180 (P : Params) : Obj := ⟨(Value.type "tuple"), none, (Data.seq #[] 0), #[]⟩
noncomputable def o181 (P : Params) : Obj := ⟨Value.none, none, (Data.fields #[]), #[]⟩
noncomputable def o182 (P : Params) : Obj := ⟨Value.none, none, (.func ⟨(Str.ofString "_law_due"), (Str.ofString "_law_due"), (fnAt 26).1, .stmts (fnAt 26).2.1, (fnAt 26).2.2, 0, [], Value.none, Value.none, Value.none, Value.none, none, Value.none, Value.none, 0⟩), #[]⟩
noncomputable def o183 (P : Params) : Obj := ⟨(Value.type "code"), none, (Data.fields #[(topS "_law_due" 467), (topS "_law_due" 468), (topS "/claim/cut.py" 469), (.int (193 : Int) 0), (.int (2 : Int) 0), (.int (0 : Int) 0), (.int (0 : Int) 0), (.int (3 : Int) 0), (.ref 180), (Value.bool Bool.true), (.int (181 : Int) 0), (.ref 181), Value.none, Value.none, Value.none, (.ref 182), (.int (470 : Int) 0), (.int (193 : Int) 0), (topS "/claim/cut.py" 471)]), #[]⟩
noncomputable def o184 (P : Params) : Obj := ⟨(Value.type "function"), none, (.func ⟨(Str.ofString "_law_due"), (Str.ofString "_law_due"), (fnAt 26).1, .stmts (fnAt 26).2.1, (fnAt 26).2.2, 3, [], Value.none, Value.none, Value.none, (topS "law_pp0002_01" 403), none, (.ref 183), Value.none, 0⟩), #[]⟩
noncomputable def o185 (P : Params) : Obj := ⟨(Value.type "tuple"), none, (Data.seq #[] 0), #[]⟩
noncomputable def o186 (P : Params) : Obj := ⟨Value.none, none, (Data.fields #[]), #[]⟩
noncomputable def o187 (P : Params) : Obj := ⟨Value.none, none, (.func ⟨(Str.ofString "law"), (Str.ofString "law"), (fnAt 27).1, .stmts (fnAt 27).2.1, (fnAt 27).2.2, 0, [], Value.none, Value.none, Value.none, Value.none, none, Value.none, Value.none, 0⟩), #[]⟩
noncomputable def o188 (P : Params) : Obj := ⟨(Value.type "code"), none, (Data.fields #[(topS "law" 473), (topS "law" 474), (topS "/claim/cut.py" 475), (.int (212 : Int) 0), (.int (1 : Int) 0), (.int (0 : Int) 0), (.int (0 : Int) 0), (.int (3 : Int) 0), (.ref 185), (Value.bool Bool.true), (.int (181 : Int) 0), (.ref 186), Value.none, Value.none, Value.none, (.ref 187), (.int (476 : Int) 0), (.int (212 : Int) 0), (topS "/claim/cut.py" 477)]), #[]⟩
noncomputable def o189 (P : Params) : Obj := ⟨(Value.type "function"), none, (.func ⟨(Str.ofString "law"), (Str.ofString "law"), (fnAt 27).1, .stmts (fnAt 27).2.1, (fnAt 27).2.2, 3, [], Value.none, Value.none, Value.none, (topS "law_pp0002_01" 403), none, (.ref 188), Value.none, 0⟩), #[]⟩
noncomputable def treeAt7 (P : Params) : BT := (.node (boot_o_0 P) (.node (boot_o_1 P) (.node (o3at7 P) (.node (boot_o_7 P) (.node (o15 P) (.node (o31 P) (.node (o63 P) (.node (o127 P) .nil .nil) .nil) (.node (o95 P) (.node (o159 P) .nil .nil) .nil)) (.node (o47 P) (.node (o79 P) (.node (o143 P) .nil .nil) .nil) (.node (o111 P) (.node (o175 P) .nil .nil) .nil))) (.node (o23 P) (.node (o39 P) (.node (o71 P) (.node (o135 P) .nil .nil) .nil) (.node (o103 P) (.node (o167 P) .nil .nil) .nil)) (.node (o55at4 P) (.node (o87 P) (.node (o151 P) .nil .nil) .nil) (.node (o119 P) (.node (o183 P) .nil .nil) .nil)))) (.node (o11 P) (.node (o19 P) (.node (o35 P) (.node (o67 P) (.node (o131 P) .nil .nil) .nil) (.node (o99 P) (.node (o163 P) .nil .nil) .nil)) (.node (o51 P) (.node (o83 P) (.node (o147 P) .nil .nil) .nil) (.node (o115 P) (.node (o179 P) .nil .nil) .nil))) (.node (o27 P) (.node (o43 P) (.node (o75 P) (.node (o139 P) .nil .nil) .nil) (.node (o107 P) (.node (o171 P) .nil .nil) .nil)) (.node (o59 P) (.node (o91 P) (.node (o155 P) .nil .nil) .nil) (.node (o123 P) (.node (o187 P) .nil .nil) .nil))))) (.node (boot_o_5 P) (.node (boot_o_9 P) (.node (o17 P) (.node (o33 P) (.node (o65 P) (.node (o129 P) .nil .nil) .nil) (.node (o97 P) (.node (o161 P) .nil .nil) .nil)) (.node (o49 P) (.node (o81 P) (.node (o145 P) .nil .nil) .nil) (.node (o113 P) (.node (o177 P) .nil .nil) .nil))) (.node (o25 P) (.node (o41 P) (.node (o73 P) (.node (o137 P) .nil .nil) .nil) (.node (o105 P) (.node (o169 P) .nil .nil) .nil)) (.node (o57 P) (.node (o89 P) (.node (o153 P) .nil .nil) .nil) (.node (o121 P) (.node (o185 P) .nil .nil) .nil)))) (.node (o13 P) (.node (o21 P) (.node (o37 P) (.node (o69 P) (.node (o133 P) .nil .nil) .nil) (.node (o101 P) (.node (o165 P) .nil .nil) .nil)) (.node (o53 P) (.node (o85 P) (.node (o149 P) .nil .nil) .nil) (.node (o117 P) (.node (o181 P) .nil .nil) .nil))) (.node (o29 P) (.node (o45 P) (.node (o77 P) (.node (o141 P) .nil .nil) .nil) (.node (o109 P) (.node (o173 P) .nil .nil) .nil)) (.node (o61 P) (.node (o93 P) (.node (o157 P) .nil .nil) .nil) (.node (o125 P) (.node (o189 P) .nil .nil) .nil)))))) (.node (o2at3 P) (.node (boot_o_4 P) (.node (boot_o_8 P) (.node (o16 P) (.node (o32 P) (.node (o64 P) (.node (o128 P) .nil .nil) .nil) (.node (o96 P) (.node (o160 P) .nil .nil) .nil)) (.node (o48 P) (.node (o80 P) (.node (o144 P) .nil .nil) .nil) (.node (o112 P) (.node (o176 P) .nil .nil) .nil))) (.node (o24 P) (.node (o40 P) (.node (o72 P) (.node (o136 P) .nil .nil) .nil) (.node (o104 P) (.node (o168 P) .nil .nil) .nil)) (.node (o56 P) (.node (o88 P) (.node (o152 P) .nil .nil) .nil) (.node (o120 P) (.node (o184 P) .nil .nil) .nil)))) (.node (o12at7 P) (.node (o20 P) (.node (o36 P) (.node (o68 P) (.node (o132 P) .nil .nil) .nil) (.node (o100 P) (.node (o164 P) .nil .nil) .nil)) (.node (o52 P) (.node (o84 P) (.node (o148 P) .nil .nil) .nil) (.node (o116 P) (.node (o180 P) .nil .nil) .nil))) (.node (o28 P) (.node (o44 P) (.node (o76 P) (.node (o140 P) .nil .nil) .nil) (.node (o108 P) (.node (o172 P) .nil .nil) .nil)) (.node (o60 P) (.node (o92 P) (.node (o156 P) .nil .nil) .nil) (.node (o124 P) (.node (o188 P) .nil .nil) .nil))))) (.node (boot_o_6 P) (.node (boot_o_10 P) (.node (o18 P) (.node (o34 P) (.node (o66 P) (.node (o130 P) .nil .nil) .nil) (.node (o98 P) (.node (o162 P) .nil .nil) .nil)) (.node (o50 P) (.node (o82 P) (.node (o146 P) .nil .nil) .nil) (.node (o114 P) (.node (o178 P) .nil .nil) .nil))) (.node (o26 P) (.node (o42 P) (.node (o74 P) (.node (o138 P) .nil .nil) .nil) (.node (o106 P) (.node (o170 P) .nil .nil) .nil)) (.node (o58 P) (.node (o90 P) (.node (o154 P) .nil .nil) .nil) (.node (o122 P) (.node (o186 P) .nil .nil) .nil)))) (.node (o14 P) (.node (o22 P) (.node (o38 P) (.node (o70 P) (.node (o134 P) .nil .nil) .nil) (.node (o102 P) (.node (o166 P) .nil .nil) .nil)) (.node (o54 P) (.node (o86 P) (.node (o150 P) .nil .nil) .nil) (.node (o118 P) (.node (o182 P) .nil .nil) .nil))) (.node (o30 P) (.node (o46 P) (.node (o78 P) (.node (o142 P) .nil .nil) .nil) (.node (o110 P) (.node (o174 P) .nil .nil) .nil)) (.node (o62 P) (.node (o94 P) (.node (o158 P) .nil .nil) .nil) (.node (o126 P) .nil .nil)))))))
noncomputable def heapAt8 (P : Params) : Heap := ⟨⟨[boot_o_0 P, boot_o_1 P, o2at3 P, o3at7 P, boot_o_4 P, boot_o_5 P, boot_o_6 P, boot_o_7 P, boot_o_8 P, boot_o_9 P, boot_o_10 P, o11 P, o12at7 P, o13 P, o14 P, o15 P, o16 P, o17 P, o18 P, o19 P, o20 P, o21 P, o22 P, o23 P, o24 P, o25 P, o26 P, o27 P, o28 P, o29 P, o30 P, o31 P, o32 P, o33 P, o34 P, o35 P, o36 P, o37 P, o38 P, o39 P, o40 P, o41 P, o42 P, o43 P, o44 P, o45 P, o46 P, o47 P, o48 P, o49 P, o50 P, o51 P, o52 P, o53 P, o54 P, o55at4 P, o56 P, o57 P, o58 P, o59 P, o60 P, o61 P, o62 P, o63 P, o64 P, o65 P, o66 P, o67 P, o68 P, o69 P, o70 P, o71 P, o72 P, o73 P, o74 P, o75 P, o76 P, o77 P, o78 P, o79 P, o80 P, o81 P, o82 P, o83 P, o84 P, o85 P, o86 P, o87 P, o88 P, o89 P, o90 P, o91 P, o92 P, o93 P, o94 P, o95 P, o96 P, o97 P, o98 P, o99 P, o100 P, o101 P, o102 P, o103 P, o104 P, o105 P, o106 P, o107 P, o108 P, o109 P, o110 P, o111 P, o112 P, o113 P, o114 P, o115 P, o116 P, o117 P, o118 P, o119 P, o120 P, o121 P, o122 P, o123 P, o124 P, o125 P, o126 P, o127 P, o128 P, o129 P, o130 P, o131 P, o132 P, o133 P, o134 P, o135 P, o136 P, o137 P, o138 P, o139 P, o140 P, o141 P, o142 P, o143 P, o144 P, o145 P, o146 P, o147 P, o148 P, o149 P, o150 P, o151 P, o152 P, o153 P, o154 P, o155 P, o156 P, o157 P, o158 P, o159 P, o160 P, o161 P, o162 P, o163 P, o164 P, o165 P, o166 P, o167 P, o168 P, o169 P, o170 P, o171 P, o172 P, o173 P, o174 P, o175 P, o176 P, o177 P, o178 P, o179 P, o180 P, o181 P, o182 P, o183 P, o184 P, o185 P, o186 P, o187 P, o188 P, o189 P]⟩, {}⟩

/-! what the top leaves in the heap, as far as it is needed here -/
noncomputable def theHeap (P : Params) : Frag := [(21, o21 P), (20, o20 P), (26, o26 P), (25, o25 P), (33, o33 P), (32, o32 P), (38, o38 P), (37, o37 P), (52, o52 P), (51, o51 P), (72, o72 P), (71, o71 P), (84, o84 P), (83, o83 P), (91, o91 P), (90, o90 P), (96, o96 P), (95, o95 P), (101, o101 P), (100, o100 P), (108, o108 P), (107, o107 P), (113, o113 P), (112, o112 P), (118, o118 P), (117, o117 P), (123, o123 P), (122, o122 P), (137, o137 P), (136, o136 P), (151, o151 P), (150, o150 P), (158, o158 P), (157, o157 P), (165, o165 P), (164, o164 P), (172, o172 P), (171, o171 P), (179, o179 P), (178, o178 P), (184, o184 P), (183, o183 P), (2, o2at3 P), (3, o3at7 P), (54, o54 P), (55, o55at4 P), (74, o74 P), (75, o75 P), (139, o139 P), (140, o140 P)]
noncomputable def theAddrs : List Addr := [21, 20, 26, 25, 33, 32, 38, 37, 52, 51, 72, 71, 84, 83, 91, 90, 96, 95, 101, 100, 108, 107, 113, 112, 118, 117, 123, 122, 137, 136, 151, 150, 158, 157, 165, 164, 172, 171, 179, 178, 184, 183, 2, 3, 54, 55, 74, 75, 139, 140]
noncomputable def theView : Program := { PySem.Challenge.pw_pp0002_01 with main := { PySem.Challenge.pw_pp0002_01.main with body := [1, 3, 4, 5, 7, 8, 10, 11, 12, 13, 14, 15, 16, 17, 19, 21, 22, 23, 24, 25, 26, 27].filterMap fun i => PySem.Challenge.pw_pp0002_01.main.body[i]? } }
noncomputable abbrev theHook : Hook := kHook theHeap theAddrs (fun _ => by kernel_rfl)

/-! the top's run, in pieces -/
noncomputable abbrev topG : Array GenState := ⟨[]⟩
noncomputable def theBody : List Stmt := behindTheImports topP
noncomputable def theEnv : Env := { scope := topP.main.scope, locals := mainNs, globals := mainNs, cells := [], code := .ref 13, frame := some 14 }
noncomputable abbrev theCode : Code := .body theBody theEnv
noncomputable abbrev topPos : Pos := ⟨0, 0, 0, 0⟩
noncomputable abbrev topAnn : Option Value := some (.ref 6)
noncomputable abbrev topT (T : Params → BT) (n k : Nat) (w : World) (os : OsState) : SharedT := ⟨T w.params, n, {}, topG, boot_drawn, k, os⟩
noncomputable abbrev topH (H : Params → Heap) (k : Nat) (w : World) (os : OsState) : Shared := ⟨H w.params, topG, boot_drawn, k, os⟩
noncomputable def sts0 : List Stmt := (theBody.drop 0).take 7
noncomputable def sts1 : List Stmt := (theBody.drop 7).take 1
noncomputable def sts2 : List Stmt := (theBody.drop 8).take 1
noncomputable def sts3 : List Stmt := (theBody.drop 9).take 10
noncomputable def sts4 : List Stmt := (theBody.drop 19).take 1
noncomputable def sts5 : List Stmt := (theBody.drop 20).take 8

theorem run_pre (w : World) (os : OsState) : topGo treeTable topP w 11 topAnn 12 (topH boot_heap boot_toks w os) (topStub topP) = some (topH heapAt0 187 w os, ⟨denote treeTable theCode, theCode, ⟨0, 0, 0, 0⟩, [topFrame topPos]⟩) := by kernel_rfl
theorem run_block (w : World) (os : OsState) : segRun treeTable topP w 11 topAnn 1 1 (topH heapAt0 187 w os) (blockOf theBody theEnv theCode ⟨0, 0, 0, 0⟩ [topFrame topPos]) = some (.next, (topT treeAt1 15 187 w os).abs, theCode, ⟨0, 0, 0, 0⟩) := by kernel_rfl
theorem run_g0 (w : World) (os : OsState) : segRunT treeTable topP w 11 topAnn 1 141 (topT treeAt1 15 187 w os) (piecesOf sts0 theEnv theCode ⟨0, 0, 0, 0⟩ [topFrame topPos]) = some (.next, topT treeAt2 39 222 w os, theCode, ⟨26, 0, 26, 8⟩) := by kernel_rfl
theorem run_g1 (w : World) (os : OsState) : segRunT treeTable topP w 11 topAnn 1 229 (topT treeAt2 39 222 w os) (piecesOf sts1 theEnv theCode ⟨26, 0, 26, 8⟩ [topFrame topPos]) = some (.next, topT treeAt3 59 251 w os, theCode, ⟨27, 0, 31, 24⟩) := by kernel_rfl
theorem run_g2 (w : World) (os : OsState) : segRunT treeTable topP w 11 topAnn 1 247 (topT treeAt3 59 251 w os) (piecesOf sts2 theEnv theCode ⟨27, 0, 31, 24⟩ [topFrame topPos]) = some (.next, topT treeAt4 78 277 w os, theCode, ⟨32, 0, 36, 24⟩) := by kernel_rfl
theorem run_g3 (w : World) (os : OsState) : segRunT treeTable topP w 11 topAnn 1 257 (topT treeAt4 78 277 w os) (piecesOf sts3 theEnv theCode ⟨32, 0, 36, 24⟩ [topFrame topPos]) = some (.next, topT treeAt5 124 353 w os, theCode, ⟨121, 0, 121, 8⟩) := by kernel_rfl
theorem run_g4 (w : World) (os : OsState) : segRunT treeTable topP w 11 topAnn 1 244 (topT treeAt5 124 353 w os) (piecesOf sts4 theEnv theCode ⟨121, 0, 121, 8⟩ [topFrame topPos]) = some (.next, topT treeAt6 145 403 w os, theCode, ⟨122, 0, 141, 34⟩) := by kernel_rfl
theorem run_g5 (w : World) (os : OsState) : segRunT treeTable topP w 11 topAnn 1 234 (topT treeAt6 145 403 w os) (piecesOf sts5 theEnv theCode ⟨122, 0, 141, 34⟩ [topFrame topPos]) = some (.next, topT treeAt7 190 479 w os, theCode, ⟨212, 0, 225, 40⟩) := by kernel_rfl
theorem run_fin (w : World) (os : OsState) : topRun treeTable topP w 11 topAnn 2 (topT treeAt7 190 479 w os).abs ⟨doneF .next, theCode, ⟨212, 0, 225, 40⟩, [topFrame topPos]⟩ = some (topH heapAt8 479 w os) := by kernel_rfl
theorem body_cut : sts0 ++ (sts1 ++ (sts2 ++ (sts3 ++ (sts4 ++ (sts5 ++ []))))) = theBody := by kernel_rfl
theorem run_body (w : World) (os : OsState) : topRun treeTable topP w 11 topAnn (141 + (229 + (247 + (257 + (244 + (234 + 2)))))) (topT treeAt1 15 187 w os).abs (restOf (sts0 ++ (sts1 ++ (sts2 ++ (sts3 ++ (sts4 ++ (sts5 ++ [])))))) theEnv theCode ⟨0, 0, 0, 0⟩ [topFrame topPos]) = some (topH heapAt8 479 w os) :=
  piece_app (segRun_of (run_g0 w os)) (piece_app (segRun_of (run_g1 w os)) (piece_app (segRun_of (run_g2 w os)) (piece_app (segRun_of (run_g3 w os)) (piece_app (segRun_of (run_g4 w os)) (piece_app (segRun_of (run_g5 w os)) (piece_nil (run_fin w os)))))))
theorem run_all (w : World) (os : OsState) : topRun treeTable topP w 11 topAnn (12 + (1 + (141 + (229 + (247 + (257 + (244 + (234 + 2)))))))) (topH boot_heap boot_toks w os) (topStub topP) = some (topH heapAt8 479 w os) :=
  go_top (run_pre w os) (piece_block (run_block w os) (Eq.mp (congrArg (fun l => topRun treeTable topP w 11 topAnn (141 + (229 + (247 + (257 + (244 + (234 + 2)))))) (topT treeAt1 15 187 w os).abs (restOf l theEnv theCode ⟨0, 0, 0, 0⟩ [topFrame topPos]) = some (topH heapAt8 479 w os)) body_cut) (run_body w os)))

/-! what is seen of the state behind the top -/
theorem top_open (w : World) : (fencedOpening treeTable topP w 2818).map (fun s => (s.heap, s.gens, s.drawn, s.toks)) = some (boot_heap w.params, topG, boot_drawn, boot_toks) :=
  boot_open (p := topP) (N := 2818) (by kernel_rfl) (by kernel_rfl) (fun s => by kernel_rfl) w
theorem top_size (w : World) : ((boot_heap w.params).isNs mainGlobals && topG.size == 0, (boot_heap w.params).objs.size, (boot_heap w.params).nsMap mainGlobals "__annotations__") = (true, 11, topAnn) := by kernel_rfl
noncomputable abbrev topX : Shared → Bool := fun s => xlAt theView [] s && recOk (RowW.records PySem.Challenge.rw_pp0002_01.row.toRowW) s
theorem look_kept (w : World) (os : OsState) : (staticsOk (importedModules topP.main.body) (boot_heap w.params) (heapAt8 w.params) && namesBound topP (heapAt8 w.params) && gensDone (topH heapAt8 479 w os) && laidKept (boot_heap w.params) (heapAt8 w.params)) = true := by kernel_rfl
theorem look_seen (w : World) (os : OsState) : openSeen theView [] (importedModules topP.main.body) topX true (topH heapAt8 479 w os) = openGood theView [] := by kernel_rfl
theorem look_hook (w : World) (os : OsState) : Hook.obs theHook (topH heapAt8 479 w os) = Hook.val theHook w := by kernel_rfl
theorem top_run : LeftO PySem.Challenge.pw_pp0002_01 theView [] (fun s => xlAt theView [] s && recOk (RowW.records PySem.Challenge.rw_pp0002_01.row.toRowW) s) (Hook.obs theHook) (Hook.val theHook) 2818 :=
  LeftO.of_pieces (H₀ := boot_heap) (H₁ := heapAt8) (gs₀ := topG) (gs₁ := topG) (d₀ := boot_drawn) (d₁ := boot_drawn) (k₀ := boot_toks) (k₁ := 479) (m₀ := 11) (ann := topAnn) (M := 12 + (1 + (141 + (229 + (247 + (257 + (244 + (234 + 2))))))))
    top_open top_size run_all (by kernel_rfl) (fun w => funext fun os => looks_pair (look_kept w os) (looks_pair (look_seen w os) (look_hook w os)))
theorem law_said : OpenLaw.wellSaid PySem.Challenge.rw_pp0002_01 = true := by
  delta OpenLaw.wellSaid OpenRow.wellSaid OpenRow.partSaid looksOpen
  repeat' with_reducible refine look_both ?_ ?_
  all_goals decide +kernel
end Mine
end

section
open PySem PySem.W PyProof.Rows
set_option linter.unusedVariables false
namespace Mine

noncomputable abbrev Zm := Addr → Option Obj
noncomputable def Zm.In (Z : Zm) (h : Heap) : Prop := ∀ a o, Z a = some o → h.get? a = some o
noncomputable def Zm.Le (Z Z' : Zm) : Prop := ∀ a o, Z a = some o → Z' a = some o
noncomputable def Zm.add (Z : Zm) (a : Addr) (o : Obj) : Zm := fun b => if b = a then some o else Z b
noncomputable def Zm.Says (Z : Zm) (P : Heap → Prop) : Prop := ∀ h, Z.In h → P h

theorem Zm.Le.refl (Z : Zm) : Z.Le Z := fun _ _ e => e
theorem Zm.Le.trans {Z Z' Z'' : Zm} (x : Z.Le Z') (y : Z'.Le Z'') : Z.Le Z'' := fun a o e => y a o (x a o e)
theorem Zm.In.le {Z Z' : Zm} {h : Heap} (x : Z'.In h) (l : Z.Le Z') : Z.In h := fun a o e => x a o (l a o e)
theorem Zm.Says.mono {Z Z' : Zm} {P : Heap → Prop} (x : Z.Says P) (l : Z.Le Z') : Z'.Says P := fun h i => x h (i.le l)
theorem Zm.le_add {Z : Zm} {a : Addr} (o : Obj) (h : Z a = none) : Z.Le (Z.add a o) := fun b ob e => by
  unfold Zm.add
  by_cases hb : b = a
  · subst hb; rw [h] at e; cases e
  · rw [if_neg hb]; exact e
theorem Zm.In.add {Z : Zm} {h : Heap} {a : Addr} {o : Obj} (x : Z.In h) (ho : h.get? a = some o) : (Z.add a o).In h := fun b ob e => by
  unfold Zm.add at e
  by_cases hb : b = a
  · subst hb; rw [if_pos rfl] at e; cases e; exact ho
  · rw [if_neg hb] at e; exact x b ob e
theorem Zm.add_self (Z : Zm) (a : Addr) (o : Obj) : (Z.add a o) a = some o := if_pos rfl
theorem Zm.add_other (Z : Zm) {a b : Addr} (o : Obj) (h : b ≠ a) : (Z.add a o) b = Z b := if_neg h

inductive D where
  | none | bool (b : Bool) | int (i : Int) | str (x : Str)
  | tup (l : List D) | list (l : List D)
  | dI (l : List (Int × D)) | dS (l : List (Str × D)) | dT (l : List ((Str × Str) × D))
  | rng (n : Nat) | ent | clk

noncomputable def PTup (h : Heap) (a : Addr) (vs : List Value) : Prop := ∃ n, h.get? a = some { cls := .type "tuple", data := .seq vs.toArray n }
noncomputable def PList (h : Heap) (a : Addr) (vs : List Value) : Prop := ∃ n, h.get? a = some { cls := .type "list", data := .seq vs.toArray n }
noncomputable def IsRng (h : Heap) (a : Addr) (n : Nat) : Prop := n < 2 ^ 60 ∧ ∃ t u v, IsRange h a 0 n 1 t u v
/-- an Entity whose is_complete is False -/
noncomputable def EntAt (C : Addr) (h : Heap) (a : Addr) : Prop := ∃ m, h.Inst a C m ∧ m "is_complete" = some (.bool false)
/-- what stays through the whole proof: the program, the world, the clock's address, the script's first ints, the heap ahead of the call, the class Entity -/
structure Cx where
  prog : Program
  w : World
  κ : Addr
  sa : Addr
  sc : List Int
  h₀ : Heap
  ent : Addr

theorem PList.isList {h : Heap} {a : Addr} {vs : List Value} (x : PList h a vs) : h.IsList a vs.toArray := let ⟨n, e⟩ := x; ⟨_, e, rfl, n, rfl⟩
theorem PList.at {h h' : Heap} {a : Addr} {vs : List Value} (x : PList h a vs) (k : ∀ o, h.get? a = some o → h'.get? a = some o) : PList h' a vs := let ⟨n, e⟩ := x; ⟨n, k _ e⟩
theorem PTup.at {h h' : Heap} {a : Addr} {vs : List Value} (x : PTup h a vs) (k : ∀ o, h.get? a = some o → h'.get? a = some o) : PTup h' a vs := let ⟨n, e⟩ := x; ⟨n, k _ e⟩
theorem PTup.isTuple {h : Heap} {a : Addr} {vs : List Value} (x : PTup h a vs) : h.IsTuple a vs.toArray := let ⟨n, e⟩ := x; ⟨_, e, rfl, n, rfl⟩

/-- two lists, item by item -/
inductive F2 {α β : Type} (R : α → β → Prop) : List α → List β → Prop
  | nil : F2 R [] []
  | cons {a b l m} : R a b → F2 R l m → F2 R (a :: l) (b :: m)

namespace F2
variable {α β : Type} {R S : α → β → Prop}
theorem mono {l : List α} {m : List β} (x : F2 R l m) (h : ∀ a b, R a b → S a b) : F2 S l m := by
  induction x with
  | nil => exact .nil
  | cons r _ ih => exact .cons (h _ _ r) ih
theorem length {l : List α} {m : List β} (x : F2 R l m) : l.length = m.length := by
  induction x with
  | nil => rfl
  | cons _ _ ih => simp [ih]
theorem append {l l' : List α} {m m' : List β} (x : F2 R l m) (y : F2 R l' m') : F2 R (l ++ l') (m ++ m') := by
  induction x with
  | nil => exact y
  | cons r _ ih => exact .cons r ih
theorem get {l : List α} {m : List β} (x : F2 R l m) : ∀ {i : Nat} {a : α}, l[i]? = some a → ∃ b, m[i]? = some b ∧ R a b := by
  induction x with
  | nil => intro i a h; simp at h
  | cons r _ ih =>
    intro i a h
    cases i with
    | zero => simp at h; subst h; exact ⟨_, rfl, r⟩
    | succ j => simp at h; exact ih h
theorem get' {l : List α} {m : List β} (x : F2 R l m) : ∀ {i : Nat} {b : β}, m[i]? = some b → ∃ a, l[i]? = some a ∧ R a b := by
  induction x with
  | nil => intro i a h; simp at h
  | cons r _ ih =>
    intro i a h
    cases i with
    | zero => simp at h; subst h; exact ⟨_, rfl, r⟩
    | succ j => simp at h; exact ih h
theorem of_get : ∀ {l : List α} {m : List β}, l.length = m.length → (∀ (i : Nat) a b, l[i]? = some a → m[i]? = some b → R a b) → F2 R l m
  | [], [], _, _ => .nil
  | [], _ :: _, h, _ => by simp at h
  | _ :: _, [], h, _ => by simp at h
  | a :: l, b :: m, h, k => .cons (k 0 a b rfl rfl) (of_get (by simpa using h) fun i a b ha hb => k (i + 1) a b (by simpa using ha) (by simpa using hb))
theorem take {l : List α} {m : List β} (x : F2 R l m) : ∀ n, F2 R (l.take n) (m.take n) := by
  induction x with
  | nil => intro n; simp; exact .nil
  | cons r _ ih => intro n; cases n with
    | zero => exact .nil
    | succ n => exact .cons r (ih n)
theorem drop {l : List α} {m : List β} (x : F2 R l m) : ∀ n, F2 R (l.drop n) (m.drop n) := by
  induction x with
  | nil => intro n; simp; exact .nil
  | cons r t ih => intro n; cases n with
    | zero => exact .cons r t
    | succ n => exact ih n
end F2

section
variable (g : Cx)
/-- a tuple that is a key -/
noncomputable def TKey (h : Heap) (ks : List Str) (b : Addr) : Prop := (tupleKind (strKind g.prog g.w)).is h ks b ∧ ∃ vs, PTup h b vs

inductive Rep (Z : Zm) : Value → D → Prop
  | none : Rep Z .none .none
  | bool (b) : Rep Z (.bool b) (.bool b)
  | int (i t) : Rep Z (.int i t) (.int i)
  | str (x t) : Rep Z (.str x t) (.str x)
  | tup (a vs ds) : (∃ o, Z a = some o) → Z.Says (fun h => PTup h a vs) → vs.length = ds.length → (∀ (i : Nat) v d, vs[i]? = some v → ds[i]? = some d → Rep Z v d) → Rep Z (.ref a) (.tup ds)
  | list (a vs ds) : (∃ o, Z a = some o) → Z.Says (fun h => PList h a vs) → vs.length = ds.length → (∀ (i : Nat) v d, vs[i]? = some v → ds[i]? = some d → Rep Z v d) → Rep Z (.ref a) (.list ds)
  | dI (a kvs es) : (∃ o, Z a = some o) → (a == sysModules) = false → Z.Says (fun h => h.DictOf (intKind g.prog g.w) a kvs) → kvs.map (·.1) = es.map (·.1) →
      (∀ (i : Nat) k v k' d, kvs[i]? = some (k, v) → es[i]? = some (k', d) → Rep Z v d) → Rep Z (.ref a) (.dI es)
  | dS (a kvs es) : (∃ o, Z a = some o) → (a == sysModules) = false → Z.Says (fun h => h.DictOf (strKind g.prog g.w) a kvs) → kvs.map (·.1) = es.map (·.1) →
      (∀ (i : Nat) k v k' d, kvs[i]? = some (k, v) → es[i]? = some (k', d) → Rep Z v d) → Rep Z (.ref a) (.dS es)
  | dT (a) (xs : List (List Str × Addr × Value)) (es : List ((Str × Str) × D)) : (∃ o, Z a = some o) → (a == sysModules) = false → Z.Says (fun h => h.DictOfH (tupleKind (strKind g.prog g.w)) a xs) → xs.map (·.1) = es.map (fun e => [e.1.1, e.1.2]) →
      (∀ x ∈ xs, Z.Says fun h => TKey g h x.1 x.2.1) →
      (∀ (i : Nat) k b v k' d, xs[i]? = some (k, b, v) → es[i]? = some (k', d) → Rep Z v d) → Rep Z (.ref a) (.dT es)
  | rng (a n) : (∃ o, Z a = some o) → Z.Says (fun h => IsRng h a n) → Rep Z (.ref a) (.rng n)
  | ent (a) : (∃ o, Z a = some o) → Z.Says (fun h => EntAt g.ent h a) → Rep Z (.ref a) .ent
  | clk : Rep Z (.ref g.κ) .clk

variable {g}
theorem Rep.mono {Z Z' : Zm} {v : Value} {d : D} (x : Rep g Z v d) (l : Z.Le Z') : Rep g Z' v d := by
  induction x with
  | none => exact .none
  | bool b => exact .bool b
  | int i t => exact .int i t
  | str x t => exact .str x t
  | tup a vs ds h0 h1 h2 _ ih => exact .tup a vs ds (let ⟨o, e⟩ := h0; ⟨o, l _ _ e⟩) (h1.mono l) h2 ih
  | list a vs ds h0 h1 h2 _ ih => exact .list a vs ds (let ⟨o, e⟩ := h0; ⟨o, l _ _ e⟩) (h1.mono l) h2 ih
  | dI a kvs es h0 hs h1 h2 _ ih => exact .dI a kvs es (let ⟨o, e⟩ := h0; ⟨o, l _ _ e⟩) hs (h1.mono l) h2 ih
  | dS a kvs es h0 hs h1 h2 _ ih => exact .dS a kvs es (let ⟨o, e⟩ := h0; ⟨o, l _ _ e⟩) hs (h1.mono l) h2 ih
  | dT a xs es h0 hs h1 h2 h3 _ ih => exact .dT a xs es (let ⟨o, e⟩ := h0; ⟨o, l _ _ e⟩) hs (h1.mono l) h2 (fun x hx => (h3 x hx).mono l) ih
  | rng a n h0 h => exact .rng a n (let ⟨o, e⟩ := h0; ⟨o, l _ _ e⟩) (h.mono l)
  | ent a h0 h => exact .ent a (let ⟨o, e⟩ := h0; ⟨o, l _ _ e⟩) (h.mono l)
  | clk => exact .clk

variable (g)
noncomputable abbrev RepL (Z : Zm) : List Value → List D → Prop := F2 (Rep g Z)
/-- a dict's pairs -/
noncomputable def RepKV {K : Type} (Z : Zm) : List (K × Value) → List (K × D) → Prop := F2 fun a b => a.1 = b.1 ∧ Rep g Z a.2 b.2
noncomputable def RepKT (Z : Zm) : List (List Str × Addr × Value) → List ((Str × Str) × D) → Prop := F2 fun a b => a.1 = [b.1.1, b.1.2] ∧ Rep g Z a.2.2 b.2

/-- a container that stands at a in the heap -/
noncomputable def Own (h : Heap) (Z : Zm) (a : Addr) : D → Prop
  | .list ds => ∃ vs, PList h a vs ∧ RepL g Z vs ds
  | .tup ds => ∃ vs, PTup h a vs ∧ RepL g Z vs ds
  | .dI es => (a == sysModules) = false ∧ ∃ kvs, h.DictOf (intKind g.prog g.w) a kvs ∧ RepKV g Z kvs es
  | .dS es => (a == sysModules) = false ∧ ∃ kvs, h.DictOf (strKind g.prog g.w) a kvs ∧ RepKV g Z kvs es
  | .dT es => (a == sysModules) = false ∧ ∃ xs, h.DictOfH (tupleKind (strKind g.prog g.w)) a xs ∧ (∀ x ∈ xs, Z.Says fun h => TKey g h x.1 x.2.1) ∧ RepKT g Z xs es
  | _ => False
variable {g}

theorem RepL.mono {Z Z' : Zm} {vs : List Value} {ds : List D} (x : RepL g Z vs ds) (l : Z.Le Z') : RepL g Z' vs ds := F2.mono x fun _ _ r => r.mono l
theorem RepKV.mono {K : Type} {Z Z' : Zm} {vs : List (K × Value)} {ds : List (K × D)} (x : RepKV g Z vs ds) (l : Z.Le Z') : RepKV g Z' vs ds := F2.mono x fun _ _ r => ⟨r.1, r.2.mono l⟩
theorem RepKT.mono {Z Z' : Zm} {vs} {ds} (x : RepKT g Z vs ds) (l : Z.Le Z') : RepKT g Z' vs ds := F2.mono x fun _ _ r => ⟨r.1, r.2.mono l⟩

theorem Own.frame {h h' : Heap} {Z Z' : Zm} {a : Addr} {d : D} (x : Own g h Z a d) (k : ∀ o, h.get? a = some o → h'.get? a = some o) (l : Z.Le Z') (i : Z.In h') : Own g h' Z' a d := by
  cases d with
  | list ds => obtain ⟨vs, p, r⟩ := x; exact ⟨vs, p.at k, RepL.mono r l⟩
  | tup ds => obtain ⟨vs, p, r⟩ := x; exact ⟨vs, p.at k, RepL.mono r l⟩
  | dI es => obtain ⟨hs, kvs, ⟨o, e, ep, ho, q⟩, r⟩ := x; exact ⟨hs, kvs, ⟨o, e, ep, k o ho, q⟩, RepKV.mono r l⟩
  | dS es => obtain ⟨hs, kvs, ⟨o, e, ep, ho, q⟩, r⟩ := x; exact ⟨hs, kvs, ⟨o, e, ep, k o ho, q⟩, RepKV.mono r l⟩
  | dT es =>
    obtain ⟨hm, xs, ⟨o, e, ep, ho, q1, q2, q3, _, q5⟩, hs, r⟩ := x
    exact ⟨hm, xs, ⟨o, e, ep, k o ho, q1, q2, q3, fun y hy => (hs y hy _ i).1, q5⟩, fun y hy => (hs y hy).mono l, RepKT.mono r l⟩
  | _ => exact x.elim

theorem Own.there {h : Heap} {Z : Zm} {a : Addr} {d : D} (x : Own g h Z a d) : ∃ o, h.get? a = some o := by
  cases d with
  | list ds => obtain ⟨vs, ⟨n, p⟩, r⟩ := x; exact ⟨_, p⟩
  | tup ds => obtain ⟨vs, ⟨n, p⟩, r⟩ := x; exact ⟨_, p⟩
  | dI es => obtain ⟨hs, kvs, ⟨o, e, ep, ho, q⟩, r⟩ := x; exact ⟨o, ho⟩
  | dS es => obtain ⟨hs, kvs, ⟨o, e, ep, ho, q⟩, r⟩ := x; exact ⟨o, ho⟩
  | dT es => obtain ⟨hm, xs, ⟨o, e, ep, ho, q⟩, r⟩ := x; exact ⟨o, ho⟩
  | _ => exact x.elim

theorem F2.keys {K : Type} {Z : Zm} {kvs : List (K × Value)} {es : List (K × D)} (r : RepKV g Z kvs es) : kvs.map (·.1) = es.map (·.1) := by
  induction r with
  | nil => rfl
  | cons h _ ih => simp [h.1, ih]
theorem F2.keysT {Z : Zm} {kvs} {es} (r : RepKT g Z kvs es) : kvs.map (·.1) = es.map (fun e => [e.1.1, e.1.2]) := by
  induction r with
  | nil => rfl
  | cons h _ ih => simp [h.1, ih]

theorem Own.freeze {h : Heap} {Z : Zm} {a : Addr} {d : D} {o : Obj} (x : Own g h Z a d) (ho : h.get? a = some o) (hz : Z a = .none) : Rep g (Z.add a o) (.ref a) d := by
  have l : Z.Le (Z.add a o) := Zm.le_add o hz
  have at' : ∀ h', (Z.add a o).In h' → ∀ o', h.get? a = some o' → h'.get? a = some o' := fun h' i o' e => by
    rw [ho] at e; cases e; exact i a o (Zm.add_self Z a o)
  cases d with
  | list ds => obtain ⟨vs, p, r⟩ := x; exact .list a vs ds ⟨o, Zm.add_self Z a o⟩ (fun h' i => p.at (at' h' i)) r.length fun i v d h1 h2 => by obtain ⟨b, e, q⟩ := F2.get r h1; rw [h2] at e; cases e; exact q.mono l
  | tup ds => obtain ⟨vs, p, r⟩ := x; exact .tup a vs ds ⟨o, Zm.add_self Z a o⟩ (fun h' i => p.at (at' h' i)) r.length fun i v d h1 h2 => by obtain ⟨b, e, q⟩ := F2.get r h1; rw [h2] at e; cases e; exact q.mono l
  | dI es =>
    obtain ⟨hs, kvs, ⟨o', e, ep, ho', q⟩, r⟩ := x
    exact .dI a kvs es ⟨o, Zm.add_self Z a o⟩ hs (fun h' i => ⟨o', e, ep, at' h' i o' ho', q⟩) (F2.keys r) fun i k v k' d h1 h2 => by obtain ⟨b, e, q⟩ := F2.get r h1; rw [h2] at e; cases e; exact q.2.mono l
  | dS es =>
    obtain ⟨hs, kvs, ⟨o', e, ep, ho', q⟩, r⟩ := x
    exact .dS a kvs es ⟨o, Zm.add_self Z a o⟩ hs (fun h' i => ⟨o', e, ep, at' h' i o' ho', q⟩) (F2.keys r) fun i k v k' d h1 h2 => by obtain ⟨b, e, q⟩ := F2.get r h1; rw [h2] at e; cases e; exact q.2.mono l
  | dT es =>
    obtain ⟨hm, xs, ⟨o', e, ep, ho', q1, q2, q3, q4, q5⟩, hs, r⟩ := x
    exact .dT a xs es ⟨o, Zm.add_self Z a o⟩ hm (fun h' i => ⟨o', e, ep, at' h' i o' ho', q1, q2, q3, fun y hy => (hs y hy _ (i.le l)).1, q5⟩) (F2.keysT r) (fun y hy => (hs y hy).mono l) fun i k b v k' d h1 h2 => by obtain ⟨b, e, q⟩ := F2.get r h1; rw [h2] at e; cases e; exact q.2.mono l
  | _ => exact x.elim

noncomputable def isCont : D → Bool
  | .list _ | .tup _ | .dI _ | .dS _ | .dT _ => true
  | _ => false
/-- a frozen container is one that stands there -/
theorem Rep.own {h : Heap} {Z : Zm} {v : Value} {d : D} (x : Rep g Z v d) (i : Z.In h) (hc : isCont d = true := by rfl) :
    ∃ a, v = .ref a ∧ Own g h Z a d ∧ ∃ o, Z a = some o := by
  cases x with
  | tup a vs ds h0 h1 h2 h3 => exact ⟨a, rfl, ⟨vs, h1 h i, F2.of_get h2 h3⟩, h0⟩
  | list a vs ds h0 h1 h2 h3 => exact ⟨a, rfl, ⟨vs, h1 h i, F2.of_get h2 h3⟩, h0⟩
  | dI a kvs es h0 hs h1 h2 h3 =>
    refine ⟨a, rfl, ⟨hs, kvs, h1 h i, F2.of_get (by simpa using congrArg List.length h2) fun j x y hx hy => ⟨?_, h3 j x.1 x.2 y.1 y.2 hx hy⟩⟩, h0⟩
    have := congrArg (·[j]?) h2
    simpa [hx, hy] using this
  | dS a kvs es h0 hs h1 h2 h3 =>
    refine ⟨a, rfl, ⟨hs, kvs, h1 h i, F2.of_get (by simpa using congrArg List.length h2) fun j x y hx hy => ⟨?_, h3 j x.1 x.2 y.1 y.2 hx hy⟩⟩, h0⟩
    have := congrArg (·[j]?) h2
    simpa [hx, hy] using this
  | dT a xs es h0 hs h1 h2 h3 h4 =>
    refine ⟨a, rfl, ⟨hs, xs, h1 h i, h3, F2.of_get (by simpa using congrArg List.length h2) fun j x y hx hy => ⟨?_, h4 j x.1 x.2.1 x.2.2 y.1 y.2 hx hy⟩⟩, h0⟩
    have := congrArg (·[j]?) h2
    simpa [hx, hy] using this
  | _ => cases hc
end
end Mine
end

section
open PySem PySem.W PyProof.Rows
set_option linter.unusedVariables false
namespace Mine

noncomputable abbrev Cx.Rep (g : Cx) (Z : Zm) (v : Value) (d : D) : Prop := Mine.Rep g Z v d
noncomputable abbrev Cx.Own (g : Cx) (h : Heap) (Z : Zm) (a : Addr) (d : D) : Prop := Mine.Own g h Z a d
noncomputable abbrev Cx.M (g : Cx) : Model := model g.prog g.w

noncomputable def Clk (g : Cx) (Z : Zm) (h : Heap) (c : Int) : Prop :=
  ∃ t, h.IsList g.κ #[.int c t, .ref g.sa] ∧ g.Rep Z (.ref g.sa) (.list (g.sc.map D.int))

theorem Clk.mono {g : Cx} {Z Z' : Zm} {h h' : Heap} {c : Int} (x : Clk g Z h c) (l : Z.Le Z') (k : ∀ o, h.get? g.κ = some o → h'.get? g.κ = some o) : Clk g Z' h' c :=
  let ⟨t, e, r⟩ := x; ⟨t, e.at k, Rep.mono r l⟩

inductive LV where
  | f (d : D)
  | o (d : D)
noncomputable abbrev Rho := List (Str × LV)

noncomputable def Look (env : Env) (h : Heap) (x : Str) (v : Value) : Prop :=
  (env.kindOf x = some .local ∧ ∃ m, h.Ns env.locals m ∧ m x = some v) ∨
  ((env.kindOf x = some .cell ∨ env.kindOf x = some .free) ∧ ∃ c, env.cells.lookup x = some c ∧ h.IsCell c (some v))

/-- the ground that the text's top has laid -/
structure Gd (g : Cx) (mg mb : Str → Option Value) : Prop where
  lim : g.h₀.NoLimit
  gns : g.h₀.Ns mainGlobals mg
  bns : g.h₀.Ns builtinsNs mb
  sys : ∃ a o, sysModules ≤ a ∧ g.h₀.get? a = some o
  bRange : mg "range" = none ∧ mb "range" = some (.type "range")
  bLen : mg "len" = none ∧ mb "len" = some (.builtin "len")
  bList : mg "list" = none ∧ mb "list" = some (.type "list")
  bTuple : mg "tuple" = none ∧ mb "tuple" = some (.type "tuple")
  bSorted : mg "sorted" = none ∧ mb "sorted" = some (.builtin "sorted")
  bStr : mg "str" = none ∧ mb "str" = some (.type "str")
noncomputable def LRep (g : Cx) (h : Heap) (Z : Zm) (a : Addr) (v : Value) : LV → Prop
  | .f d => g.Rep Z v d
  | .o d => v = .ref a ∧ g.Own h Z a d

/-- the frame's state ρ as it lies in the heap -/
structure SimA (g : Cx) (env : Env) (B Z : Zm) (ad : Str → Addr) (ρ : Rho) (c : Int) (h : Heap) : Prop where
  fn : env.scope.kind = .function
  gl : env.globals = mainGlobals
  bl : env.builtins = builtinsNs
  zin : Z.In h
  bin : B.In h
  z0 : ∀ b o, g.h₀.get? b = some o → Z b = some o
  ns : ∃ m, h.Ns env.locals m
  cells : ∀ n c, env.cells.lookup n = some c → ∃ v, h.IsCell c v
  vars : ∀ x lv, ρ.lookup x = some lv → ∃ v, Look env h x v ∧ LRep g h Z (ad x) v lv
  inj : ∀ x y d e, ρ.lookup x = some (.o d) → ρ.lookup y = some (.o e) → ad x = ad y → x = y
  apartL : ∀ n c, env.cells.lookup n = some c → c ≠ env.locals
  apartC : ∀ n n' c, env.cells.lookup n = some c → env.cells.lookup n' = some c → n = n'
  privL : Z env.locals = none ∧ B env.locals = none ∧ env.locals ≠ g.κ
  privC : ∀ n c, env.cells.lookup n = some c → Z c = none ∧ B c = none ∧ c ≠ g.κ
  privO : ∀ x d, ρ.lookup x = some (.o d) → Z (ad x) = none ∧ B (ad x) = none ∧ ad x ≠ g.κ ∧ ad x ≠ env.locals ∧ ∀ n c, env.cells.lookup n = some c → ad x ≠ c
  clk : Clk g Z h c
  kap : Z g.κ = none ∧ B g.κ = none

/-- an expression's step: nothing that stood is turned but the clock -/
structure Ext (g : Cx) (Z Z' : Zm) (s s' : Shared) (c' : Int) : Prop where
  le : Z.Le Z'
  zin : Z'.In s'.heap
  new : ∀ a, Z a = none → (∃ o, s.heap.get? a = some o) → Z' a = none
  keep : ∀ b o, b ≠ g.κ → s.heap.get? b = some o → s'.heap.get? b = some o
  clk : Clk g Z' s'.heap c'
  os : s'.os = s.os
  gs : s'.gens = s.gens

variable {g : Cx} {env : Env} {B Z Z' Z'' : Zm} {ad : Str → Addr} {ρ : Rho} {c c' c'' : Int} {h h' h'' : Heap} {s s' s'' s1 s2 s3 : Shared}

theorem Clk.there (x : Clk g Z h c) : ∃ o, h.get? g.κ = some o := let ⟨_, ⟨o, e, _⟩, _⟩ := x; ⟨o, e⟩

theorem Ext.of (le : Z.Le Z') (zin : Z'.In s'.heap) (new : ∀ a, Z a = none → (∃ o, s.heap.get? a = some o) → Z' a = none) (keep : ∀ b o, b ≠ g.κ → s.heap.get? b = some o → s'.heap.get? b = some o) (clk : Clk g Z' s'.heap c')
    (os : s'.os = s.os := by rfl) (gs : s'.gens = s.gens := by rfl) : Ext g Z Z' s s' c' := ⟨le, zin, new, keep, clk, os, gs⟩
theorem Ext.to (x : Ext g Z Z' s s' c') (hh : s''.heap = s'.heap := by rfl) (os : s''.os = s'.os := by rfl) (gs : s''.gens = s'.gens := by rfl) : Ext g Z Z' s s'' c' := ⟨x.le, hh ▸ x.zin, x.new, hh ▸ x.keep, hh ▸ x.clk, os.trans x.os, gs.trans x.gs⟩
theorem Ext.from (x : Ext g Z Z' s s' c') (hh : s.heap = s''.heap := by rfl) (os : s.os = s''.os := by rfl) (gs : s.gens = s''.gens := by rfl) : Ext g Z Z' s'' s' c' := ⟨x.le, x.zin, hh ▸ x.new, hh ▸ x.keep, x.clk, x.os.trans os, x.gs.trans gs⟩
theorem Ext.trans (x : Ext g Z Z' s s' c') (y : Ext g Z' Z'' s' s'' c'') : Ext g Z Z'' s s'' c'' where
  le := x.le.trans y.le
  zin := y.zin
  new := fun a ha ho => by
    refine y.new a (x.new a ha ho) ?_
    by_cases hk : a = g.κ
    · subst hk; exact x.clk.there
    · obtain ⟨o, ho⟩ := ho; exact ⟨o, x.keep a o hk ho⟩
  keep := fun b o hb e => y.keep b o hb (x.keep b o hb e)
  clk := y.clk
  os := y.os.trans x.os
  gs := y.gs.trans x.gs

theorem SimA.refl (x : SimA g env B Z ad ρ c s.heap) (hh : s'.heap = s.heap := by rfl) (os : s'.os = s.os := by rfl) (gs : s'.gens = s.gens := by rfl) : Ext g Z Z s s' c := ⟨.refl Z, hh ▸ x.zin, fun _ h _ => h, fun _ _ _ e => hh ▸ e, hh ▸ x.clk, os, gs⟩

theorem Look.at {x : Str} {v : Value} (l : Look env h x v) (k1 : ∀ o, h.get? env.locals = some o → h'.get? env.locals = some o) (k2 : ∀ n c o, env.cells.lookup n = some c → h.get? c = some o → h'.get? c = some o) : Look env h' x v := by
  rcases l with ⟨hk, m, hn, hm⟩ | ⟨hk, c, hc, o, ho, hd⟩
  · exact .inl ⟨hk, m, hn.at' k1, hm⟩
  · exact .inr ⟨hk, c, hc, o, k2 x c o hc ho, hd⟩

theorem SimA.ext (x : SimA g env B Z ad ρ c s.heap) (e : Ext g Z Z' s s' c') : SimA g env B Z' ad ρ c' s'.heap where
  fn := x.fn
  gl := x.gl
  bl := x.bl
  zin := e.zin
  bin := fun a o ha => e.keep a o (fun q => by rw [q, x.kap.2] at ha; cases ha) (x.bin a o ha)
  z0 := fun b o hb => e.le b o (x.z0 b o hb)
  ns := let ⟨m, hm⟩ := x.ns; ⟨m, hm.at' fun o ho => e.keep _ o x.privL.2.2 ho⟩
  cells := fun n c hc => let ⟨v, o, ho, hd⟩ := x.cells n c hc; ⟨v, o, e.keep _ o (x.privC n c hc).2.2 ho, hd⟩
  vars := fun y lv hy => by
    obtain ⟨v, hl, hr⟩ := x.vars y lv hy
    refine ⟨v, hl.at (fun o ho => e.keep _ o x.privL.2.2 ho) (fun n c o hc ho => e.keep _ o (x.privC n c hc).2.2 ho), ?_⟩
    cases lv with
    | f d => exact Rep.mono hr e.le
    | o d => exact ⟨hr.1, Own.frame hr.2 (fun o ho => e.keep _ o (x.privO y d hy).2.2.1 ho) e.le (e.zin.le e.le)⟩
  inj := x.inj
  apartL := x.apartL
  apartC := x.apartC
  privL := ⟨e.new _ x.privL.1 (let ⟨_, o, _, _, ho, _⟩ := x.ns; ⟨o, ho⟩), x.privL.2⟩
  privC := fun n c hc => ⟨e.new _ (x.privC n c hc).1 (let ⟨_, o, ho, _⟩ := x.cells n c hc; ⟨o, ho⟩), (x.privC n c hc).2⟩
  privO := fun y d hy => ⟨e.new _ (x.privO y d hy).1 (by obtain ⟨v, _, hr⟩ := x.vars y _ hy; exact Own.there hr.2), (x.privO y d hy).2⟩
  clk := e.clk
  kap := ⟨e.new _ x.kap.1 x.clk.there, x.kap.2⟩

theorem Ext.back (x : Ext g Z Z' s s' c') {a : Addr} (ha : s'.heap.get? a = none) : s.heap.get? a = none := by
  cases e : s.heap.get? a with
  | none => rfl
  | some o =>
    exfalso
    by_cases hk : a = g.κ
    · subst hk; obtain ⟨o', e'⟩ := x.clk.there; rw [ha] at e'; cases e'
    · rw [x.keep a o hk e] at ha; cases ha

/-- room for calls -/
structure OkA (k : Nat) (A : Around) : Prop where
  hd : A.handled = none
  dp : A.depth + 2 * k ≤ 800
  un : A.units + 10 * k ≤ 9000
theorem OkA.le {k j : Nat} {A : Around} (x : OkA k A) (h : j ≤ k) : OkA j A := ⟨x.hd, by have := x.dp; omega, by have := x.un; omega⟩
theorem OkA.deeper {k : Nat} {A : Around} {env : Env} (x : OkA (k + 1) A) : OkA k (A.deeper env) := ⟨x.hd, by have := x.dp; show A.depth + 1 + 2 * k ≤ 800; omega, by have := x.un; show A.units + 3 + 10 * k ≤ 9000; omega⟩
theorem OkA.in1 {k : Nat} {A : Around} (x : OkA (k + 1) A) : OkA k A.in1 := ⟨x.hd, by have := x.dp; show A.depth + 2 * k ≤ 800; omega, by have := x.un; show A.units + 1 + 10 * k ≤ 9000; omega⟩
theorem OkA.room {k : Nat} {A : Around} (x : OkA k A) : A.depth < recursionLimit := by have := x.dp; show A.depth < 1000; omega
theorem OkA.cr {k : Nat} {A : Around} (x : OkA k A) (n : Nat) (hn : n < 800) : A.units + n < cLine := by have := x.un; show A.units + n < 9900; omega

/-- an expression's value, frozen -/
structure WE (g : Cx) (k : Nat) (env : Env) (ρ : Rho) (c : Int) (e : Expr) (d : D) (c' : Int) : Prop where
  go : ∀ A E B Z ad s, OkA k A → SimA g env B Z ad ρ c s.heap →
    wpAny g.M A (eval e env) (fun v s' => ∃ Z', Ext g Z Z' s s' c' ∧ g.Rep Z' v d) E s
/-- an expression's value, a container of its own -/
structure WO (g : Cx) (k : Nat) (env : Env) (ρ : Rho) (c : Int) (e : Expr) (d : D) (c' : Int) : Prop where
  go : ∀ A E B Z ad s, OkA k A → SimA g env B Z ad ρ c s.heap →
    wpAny g.M A (eval e env) (fun v s' => ∃ Z' a, v = .ref a ∧ Ext g Z Z' s s' c' ∧ s.heap.get? a = none ∧ Z' a = none ∧ g.Own s'.heap Z' a d) E s
/-- a test -/
structure WT (g : Cx) (k : Nat) (env : Env) (ρ : Rho) (c : Int) (e : Expr) (b : Bool) (c' : Int) : Prop where
  go : ∀ A E B Z ad s, OkA k A → SimA g env B Z ad ρ c s.heap →
    wpAny g.M A (isTrue e env (eval e env)) (fun r s' => r = b ∧ ∃ Z', Ext g Z Z' s s' c') E s

theorem Ext.freeze {a : Addr} {o : Obj} (x : Ext g Z Z' s s' c') (ho : s'.heap.get? a = some o) (hz : Z' a = none) (ha : s.heap.get? a = none) : Ext g Z (Z'.add a o) s s' c' where
  le := x.le.trans (Zm.le_add o hz)
  zin := x.zin.add ho
  new := fun b hb ht => by
    have hne : b ≠ a := by rintro rfl; obtain ⟨o', e⟩ := ht; rw [ha] at e; cases e
    rw [Zm.add_other Z' o hne]; exact x.new b hb ht
  keep := x.keep
  clk := x.clk.mono (Zm.le_add o hz) fun _ e => e
  os := x.os
  gs := x.gs

theorem WO.toE {k : Nat} {e : Expr} {d : D} (x : WO g k env ρ c e d c') : WE g k env ρ c e d c' := .mk fun A E B Z ad s ok sim =>
  wpAny_mono (x.go A E B Z ad s ok sim) (fun v s' ⟨Z', a, hv, ex, ha, hz, ow⟩ => by
    subst hv
    obtain ⟨o, ho⟩ := Own.there ow
    exact ⟨Z'.add a o, ex.freeze ho hz ha, Own.freeze ow ho hz⟩) fun _ _ e => e

/-- the ground: what stood ahead of the call stands still -/
theorem SimA.ground (x : SimA g env B Z ad ρ c h) : ∀ b o, g.h₀.get? b = some o → h.get? b = some o := fun b o e => x.zin b o (x.z0 b o e)

theorem WE.name {k : Nat} {x : Str} {p : Pos} {d : D} (hx : ρ.lookup x = some (.f d)) (hd : (x == ("__debug__" : Str)) = false := by decide) (hc' : (x == ("__classdict__" : Str)) = false := by decide) : WE g k env ρ c (.Name x p) d c := .mk fun A E B Z ad s ok sim => by
  obtain ⟨v, hl, hr⟩ := sim.vars x _ hx
  refine wpAny_Name ?_ hd
  rcases hl with ⟨hk, m, hn, hm⟩ | ⟨hk, a, ha, hc⟩
  · exact wpAny_loadName_local sim.fn hk hn hm ⟨Z, sim.refl, hr⟩
  · rcases hk with hk | hk
    · exact wpAny_loadName_cell sim.fn hk ha hc ⟨Z, sim.refl, hr⟩
    · exact wpAny_loadName_free sim.fn hk ha hc ⟨Z, sim.refl, hr⟩ hc'
end Mine
end

section
open PySem PySem.W PyProof.Rows
set_option linter.unusedVariables false
namespace Mine
variable {g : Cx} {k : Nat} {env : Env} {B Z Z' Z'' : Zm} {ad : Str → Addr} {ρ : Rho} {c c' c'' c1 c2 : Int} {h h' h'' : Heap} {s s' : Shared} {e l r : Expr} {d d1 d2 : D} {p : Pos}

theorem Ext.pure (i : Z.In s.heap) (x : Clk g Z s.heap c) (hh : s'.heap = s.heap := by rfl) (os : s'.os = s.os := by rfl) (gs : s'.gens = s.gens := by rfl) : Ext g Z Z s s' c := ⟨.refl Z, hh ▸ i, fun _ h _ => h, fun _ _ _ e => hh ▸ e, hh ▸ x, os, gs⟩
theorem Zm.In.fresh (i : Z.In h) : Z h.objs.size = none := by
  cases e : Z h.objs.size with
  | none => rfl
  | some o => exact absurd (Heap.lt_size (i _ o e)) (Nat.lt_irrefl _)
theorem fresh_none (h : Heap) : h.get? h.objs.size = none := Heap.get?_none_of_le (Nat.le_refl _)
theorem Ext.push (i : Z.In s.heap) (x : Clk g Z s.heap c) (o : Obj) : Ext g Z Z s { s with heap := s.heap.push o } c :=
  .of (.refl Z) (fun a o' e => Heap.get?_push_of_some o (i a o' e)) (fun _ h _ => h) (fun _ _ _ e => Heap.get?_push_of_some o e) (x.mono (.refl Z) fun _ e => Heap.get?_push_of_some o e)
theorem Ext.pushT {o : Obj} (i : Z.In s.heap) (x : Clk g Z s.heap c) (hh : s'.heap = s.heap.push o := by rfl) (os : s'.os = s.os := by rfl) (gs : s'.gens = s.gens := by rfl) : Ext g Z Z s s' c := (Ext.push i x o).to hh os gs
/-- all that stood stands -/
theorem Ext.grow (i : Z.In s.heap) (x : Clk g Z s.heap c) (k : ∀ b o, s.heap.get? b = some o → s'.heap.get? b = some o) (os : s'.os = s.os := by rfl) (gs : s'.gens = s.gens := by rfl) : Ext g Z Z s s' c :=
  ⟨.refl Z, fun b o e => k b o (i b o e), fun _ h _ => h, fun b o _ e => k b o e, x.mono (.refl Z) fun o e => k _ o e, os, gs⟩
theorem Ext.keeps (x : Ext g Z Z' s s' c) {a : Addr} (hz : a ≠ g.κ) : ∀ o, s.heap.get? a = some o → s'.heap.get? a = some o := fun o e => x.keep a o hz e

theorem ne_clk (z : Z g.κ = none) {a : Addr} (x : ∃ o, Z a = some o) : a ≠ g.κ := by rintro rfl; obtain ⟨o, e⟩ := x; rw [z] at e; cases e

/-! what stands for a plain datum -/
theorem rep_int {v : Value} {i : Int} (r : g.Rep Z v (.int i)) : ∃ u, v = .int i u := by cases r; exact ⟨_, rfl⟩
theorem rep_str {v : Value} {x : Str} (r : g.Rep Z v (.str x)) : ∃ u, v = .str x u := by cases r; exact ⟨_, rfl⟩
theorem rep_bool {v : Value} {b : Bool} (r : g.Rep Z v (.bool b)) : v = .bool b := by cases r; rfl
theorem rep_none {v : Value} (r : g.Rep Z v .none) : v = .none := by cases r; rfl

/-! constants -/
theorem WE.int {i : Int} {kd : Nat} : WE g k env ρ c (.Constant (.int i) kd p) (.int i) c := .mk fun A E B Z ad s ok sim => wpAny_Constant_int ⟨Z, sim.refl, .int i _⟩
theorem WE.str {x : Str} {kd : Nat} : WE g k env ρ c (.Constant (.str x) kd p) (.str x) c := .mk fun A E B Z ad s ok sim => wpAny_Constant_str ⟨Z, sim.refl, .str x _⟩
theorem WE.none {kd : Nat} : WE g k env ρ c (.Constant .none kd p) .none c := .mk fun A E B Z ad s ok sim => wpAny_Constant_none ⟨Z, sim.refl, .none⟩
theorem WE.bool {b : Bool} {kd : Nat} : WE g k env ρ c (.Constant (.bool b) kd p) (.bool b) c := .mk fun A E B Z ad s ok sim => wpAny_Constant_bool ⟨Z, sim.refl, .bool b⟩

/-! two values -/
noncomputable def OpV (g : Cx) (k : Nat) (op : Operator) (d1 d2 d : D) : Prop :=
  ∀ A E Z c s v1 v2, OkA k A → Z.In s.heap → Clk g Z s.heap c → Z g.κ = none → g.Rep Z v1 d1 → g.Rep Z v2 d2 →
    wpAny g.M A (binaryOp op v1 v2) (fun v s' => ∃ Z', Ext g Z Z' s s' c ∧ g.Rep Z' v d) E s
/-- the answer is a new container -/
noncomputable def OpO (g : Cx) (k : Nat) (op : Operator) (d1 d2 d : D) : Prop :=
  ∀ A E Z c s v1 v2, OkA k A → Z.In s.heap → Clk g Z s.heap c → Z g.κ = none → g.Rep Z v1 d1 → g.Rep Z v2 d2 →
    wpAny g.M A (binaryOp op v1 v2) (fun v s' => ∃ Z' a, v = .ref a ∧ Ext g Z Z' s s' c ∧ s.heap.get? a = none ∧ Z' a = none ∧ g.Own s'.heap Z' a d) E s
noncomputable def CmpV (g : Cx) (k : Nat) (op : CmpOp) (d1 d2 : D) (b : Bool) : Prop :=
  ∀ A E Z c s v1 v2, OkA k A → Z.In s.heap → Clk g Z s.heap c → Z g.κ = none → g.Rep Z v1 d1 → g.Rep Z v2 d2 →
    wpAny g.M A (compareOp op v1 v2) (fun v s' => v = .bool b ∧ Ext g Z Z s s' c) E s

theorem OpV.int_add {a b : Int} : OpV g k .Add (.int a) (.int b) (.int (a + b)) := fun A E Z c s v1 v2 ok zi ck _ r1 r2 => by
  obtain ⟨_, rfl⟩ := rep_int r1; obtain ⟨_, rfl⟩ := rep_int r2; exact PyProof.Rows.add_int ⟨Z, .pure zi ck, .int _ _⟩
theorem OpV.int_sub {a b : Int} : OpV g k .Sub (.int a) (.int b) (.int (a - b)) := fun A E Z c s v1 v2 ok zi ck _ r1 r2 => by
  obtain ⟨_, rfl⟩ := rep_int r1; obtain ⟨_, rfl⟩ := rep_int r2; exact PyProof.Rows.sub_int ⟨Z, .pure zi ck, .int _ _⟩
theorem OpV.int_mul {a b : Int} (hm : IntMulOk a b) : OpV g k .Mult (.int a) (.int b) (.int (a * b)) := fun A E Z c s v1 v2 ok zi ck _ r1 r2 => by
  obtain ⟨_, rfl⟩ := rep_int r1; obtain ⟨_, rfl⟩ := rep_int r2; exact PySem.P.mul_int ⟨Z, .pure zi ck, .int _ _⟩ hm
theorem OpV.int_fdiv {a b : Int} (hb : b ≠ 0) (hp : Builtin.divisionGoesByPylong a b = false) : OpV g k .FloorDiv (.int a) (.int b) (.int (a.fdiv b)) := fun A E Z c s v1 v2 ok zi ck _ r1 r2 => by
  obtain ⟨_, rfl⟩ := rep_int r1; obtain ⟨_, rfl⟩ := rep_int r2; exact PyProof.Rows.floordiv_int hb ⟨Z, .pure zi ck, .int _ _⟩ (.inl hp)
theorem OpV.int_mod {a b : Int} (hb : b ≠ 0) : OpV g k .Mod (.int a) (.int b) (.int (a.fmod b)) := fun A E Z c s v1 v2 ok zi ck _ r1 r2 => by
  obtain ⟨_, rfl⟩ := rep_int r1; obtain ⟨_, rfl⟩ := rep_int r2; exact PyProof.Rows.mod_int hb ⟨Z, .pure zi ck, .int _ _⟩
theorem OpV.str_add {a b : Str} (hs : a.length + b.length ≤ sizeLine) : OpV g k .Add (.str a) (.str b) (.str (a ++ b)) := fun A E Z c s v1 v2 ok zi ck _ r1 r2 => by
  obtain ⟨_, rfl⟩ := rep_str r1; obtain ⟨_, rfl⟩ := rep_str r2; exact PyProof.Rows.add_str (fun t' tk => ⟨Z, .pure zi ck, .str _ _⟩) hs

theorem OpO.list_add {a b : List D} (hs : a.length + b.length ≤ sizeLine) : OpO g k .Add (.list a) (.list b) (.list (a ++ b)) := fun A E Z c s v1 v2 ok zi ck _ r1 r2 => by
  obtain ⟨l, rfl, ⟨vs, ⟨n, pl⟩, rl⟩, _⟩ := r1.own zi
  obtain ⟨m, rfl, ⟨ws, ⟨n', pm⟩, rm⟩, _⟩ := r2.own zi
  refine PySem.P.add_list (n := n) (n2 := n') pl pm ⟨Z, s.heap.objs.size, rfl, .pushT zi ck, fresh_none _, zi.fresh, vs ++ ws, ⟨0, ?_⟩, rl.append rm⟩ (by have := rl.length; have := rm.length; simp only [List.size_toArray]; omega)
  rw [show (vs ++ ws).toArray = vs.toArray ++ ws.toArray by simp]
  exact Heap.get?_push_size _ rfl

theorem OpV.tup_add {a b : List D} (hs : a.length + b.length ≤ sizeLine) (h0 : a ≠ []) : OpV g k .Add (.tup a) (.tup b) (.tup (a ++ b)) := fun A E Z c s v1 v2 ok zi ck _ r1 r2 => by
  obtain ⟨l, rfl, ⟨vs, ⟨n, pl⟩, rl⟩, _⟩ := id (r1.own zi)
  obtain ⟨m, rfl, ⟨ws, ⟨n', pm⟩, rm⟩, _⟩ := id (r2.own zi)
  have hv : vs ≠ [] := by rintro rfl; exact h0 (by have := rl.length; simpa using this.symm)
  by_cases hw : ws = []
  · subst hw
    have hb : b = [] := by have := rm.length; simpa using this.symm
    subst hb
    exact concat_meets ⟨_, pl, rfl⟩ ⟨_, pm, rfl⟩ noFill_tuple_add seq_tuple_add PySem.F.slot_tuple_add PySem.F.entry_tuple_add (PySem.F.args_tuple_add_2 _ _)
      (tuple_addW1 l m vs.toArray [].toArray n n' none none #[] #[] (by simpa using hv) (by simp)) ⟨pl, pm, Z, .pure zi ck, by rw [List.append_nil]; exact r1⟩
  · refine PySem.P.add_tuple (n := n) (n2 := n') pl pm (by simpa using hv) (by simpa using hw) ?_ (by have := rl.length; have := rm.length; simp only [List.size_toArray]; omega)
    have ho : (s.heap.push { cls := .type "tuple", data := .seq (vs.toArray ++ ws.toArray) }).get? s.heap.objs.size = some { cls := .type "tuple", data := .seq (vs.toArray ++ ws.toArray) } := Heap.get?_push_size _ rfl
    refine ⟨Z.add _ _, (Ext.push zi ck _).freeze ho zi.fresh (fresh_none _), Own.freeze (d := .tup (a ++ b)) ⟨vs ++ ws, ⟨0, ?_⟩, rl.append rm⟩ ho zi.fresh⟩
    rw [show (vs ++ ws).toArray = vs.toArray ++ ws.toArray by simp]
    exact ho

theorem CmpV.int_eq {a b : Int} : CmpV g k .Eq (.int a) (.int b) (a == b) := fun A E Z c s v1 v2 ok zi ck _ r1 r2 => by
  obtain ⟨_, rfl⟩ := rep_int r1; obtain ⟨_, rfl⟩ := rep_int r2; exact PyProof.Rows.eq_int ⟨rfl, .pure zi ck⟩
theorem CmpV.int_ne {a b : Int} : CmpV g k .NotEq (.int a) (.int b) (a != b) := fun A E Z c s v1 v2 ok zi ck _ r1 r2 => by
  obtain ⟨_, rfl⟩ := rep_int r1; obtain ⟨_, rfl⟩ := rep_int r2; exact PyProof.Rows.ne_int ⟨rfl, .pure zi ck⟩
theorem CmpV.int_lt {a b : Int} : CmpV g k .Lt (.int a) (.int b) (decide (a < b)) := fun A E Z c s v1 v2 ok zi ck _ r1 r2 => by
  obtain ⟨_, rfl⟩ := rep_int r1; obtain ⟨_, rfl⟩ := rep_int r2; exact PyProof.Rows.lt_int ⟨rfl, .pure zi ck⟩
theorem CmpV.int_le {a b : Int} : CmpV g k .LtE (.int a) (.int b) (decide (a ≤ b)) := fun A E Z c s v1 v2 ok zi ck _ r1 r2 => by
  obtain ⟨_, rfl⟩ := rep_int r1; obtain ⟨_, rfl⟩ := rep_int r2; exact PyProof.Rows.le_int ⟨rfl, .pure zi ck⟩
theorem CmpV.str_eq {a b : Str} : CmpV g k .Eq (.str a) (.str b) (a == b) := fun A E Z c s v1 v2 ok zi ck _ r1 r2 => by
  obtain ⟨_, rfl⟩ := rep_str r1; obtain ⟨_, rfl⟩ := rep_str r2; exact PyProof.Rows.eq_str ⟨rfl, .pure zi ck⟩
theorem CmpV.str_ne {a b : Str} : CmpV g k .NotEq (.str a) (.str b) (a != b) := fun A E Z c s v1 v2 ok zi ck _ r1 r2 => by
  obtain ⟨_, rfl⟩ := rep_str r1; obtain ⟨_, rfl⟩ := rep_str r2; exact PyProof.Rows.ne_str ⟨rfl, .pure zi ck⟩

theorem WE.binop {op : Operator} (hl : WE g k env ρ c l d1 c1) (hr : WE g k env ρ c1 r d2 c2) (ho : OpV g k op d1 d2 d) : WE g k env ρ c (.BinOp l op r p) d c2 := .mk fun A E B Z ad s ok sim =>
  wpAny_BinOp (wpAny_mono (hl.go A E B Z ad s ok sim) (fun v1 s1 ⟨Z1, x1, r1⟩ => wpAny_mono (hr.go A E B Z1 ad s1 ok (sim.ext x1)) (fun v2 s2 ⟨Z2, x2, r2⟩ =>
    wpAny_mono (ho A E Z2 c2 s2 v1 v2 ok x2.zin x2.clk ((sim.ext x1).ext x2).kap.1 (Rep.mono r1 x2.le) r2) (fun v s3 ⟨Z3, x3, r3⟩ => ⟨Z3, (x1.trans x2).trans x3, r3⟩) fun _ _ e => e) fun _ _ e => e) fun _ _ e => e)
theorem WO.binop {op : Operator} (hl : WE g k env ρ c l d1 c1) (hr : WE g k env ρ c1 r d2 c2) (ho : OpO g k op d1 d2 d) : WO g k env ρ c (.BinOp l op r p) d c2 := .mk fun A E B Z ad s ok sim =>
  wpAny_BinOp (wpAny_mono (hl.go A E B Z ad s ok sim) (fun v1 s1 ⟨Z1, x1, r1⟩ => wpAny_mono (hr.go A E B Z1 ad s1 ok (sim.ext x1)) (fun v2 s2 ⟨Z2, x2, r2⟩ =>
    wpAny_mono (ho A E Z2 c2 s2 v1 v2 ok x2.zin x2.clk ((sim.ext x1).ext x2).kap.1 (Rep.mono r1 x2.le) r2) (fun v s3 ⟨Z3, a, hv, x3, ha, hz, ow⟩ => ⟨Z3, a, hv, (x1.trans x2).trans x3, (x1.trans x2).back ha, hz, ow⟩) fun _ _ e => e) fun _ _ e => e) fun _ _ e => e)
end Mine
end

section
open PySem PySem.W PyProof.Rows
set_option linter.unusedVariables false
set_option maxRecDepth 100000
namespace Mine
variable {g : Cx} {k : Nat} {env : Env} {B Z Z' Z'' : Zm} {ad : Str → Addr} {ρ : Rho} {c c' c'' c1 c2 c3 : Int} {h h' h'' : Heap} {e l r : Expr} {d d1 d2 : D} {p : Pos}

/-- an expression that tells a container, frozen or not -/
structure WC (g : Cx) (k : Nat) (env : Env) (ρ : Rho) (c : Int) (e : Expr) (d : D) (c' : Int) : Prop where
  go : ∀ A E B Z ad s, OkA k A → SimA g env B Z ad ρ c s.heap →
    wpAny g.M A (eval e env) (fun v s' => ∃ Z' a, v = .ref a ∧ a ≠ g.κ ∧ Ext g Z Z' s s' c' ∧ g.Own s'.heap Z' a d) E s

theorem rep_cont {v : Value} (x : g.Rep Z v d) (i : Z.In h) (z : Z g.κ = none) (hc : isCont d = true) : ∃ a, v = .ref a ∧ a ≠ g.κ ∧ g.Own h Z a d := by
  obtain ⟨a, rfl, ow, hz⟩ := x.own i hc
  exact ⟨a, rfl, ne_clk z hz, ow⟩

theorem WE.toC (x : WE g k env ρ c e d c') (hc : isCont d = true := by rfl) : WC g k env ρ c e d c' := .mk fun A E B Z ad s ok sim =>
  wpAny_mono (x.go A E B Z ad s ok sim) (fun v s' ⟨Z', ex, r⟩ => by
    obtain ⟨a, hv, hk, ow⟩ := rep_cont r ex.zin (sim.ext ex).kap.1 hc
    exact ⟨Z', a, hv, hk, ex, ow⟩) fun _ _ e => e
theorem WO.toC (x : WO g k env ρ c e d c') : WC g k env ρ c e d c' := .mk fun A E B Z ad s ok sim =>
  wpAny_mono (x.go A E B Z ad s ok sim) (fun v s' ⟨Z', a, hv, ex, ha, hz, ow⟩ => ⟨Z', a, hv, (by rintro rfl; obtain ⟨o, e⟩ := sim.clk.there; rw [ha] at e; cases e), ex, ow⟩) fun _ _ e => e
theorem WC.name {x : Str} {p : Pos} (hx : ρ.lookup x = some (.o d)) (hd : (x == ("__debug__" : Str)) = false := by decide) (hc' : (x == ("__classdict__" : Str)) = false := by decide) : WC g k env ρ c (.Name x p) d c := .mk fun A E B Z ad s ok sim => by
  obtain ⟨v, hl, rfl, ow⟩ := sim.vars x _ hx
  have pr := sim.privO x d hx
  refine wpAny_Name ?_ hd
  rcases hl with ⟨hk, m, hn, hm⟩ | ⟨hk, a, ha, hc⟩
  · exact wpAny_loadName_local sim.fn hk hn hm ⟨Z, ad x, rfl, pr.2.2.1, sim.refl, ow⟩
  · rcases hk with hk | hk
    · exact wpAny_loadName_cell sim.fn hk ha hc ⟨Z, ad x, rfl, pr.2.2.1, sim.refl, ow⟩
    · exact wpAny_loadName_free sim.fn hk ha hc ⟨Z, ad x, rfl, pr.2.2.1, sim.refl, ow⟩ hc'

/-! several expressions -/
structure WEs (g : Cx) (k : Nat) (env : Env) (ρ : Rho) (c : Int) (es : List Expr) (ds : List D) (c' : Int) : Prop where
  go : ∀ A E B Z ad s pos, OkA k A → SimA g env B Z ad ρ c s.heap →
    wpAny g.M A (spliced (backTo pos (starEach es env))) (fun vs s' => ∃ Z', Ext g Z Z' s s' c' ∧ RepL g Z' vs ds) E s
theorem WEs.nil : WEs g k env ρ c [] [] c := .mk fun A E B Z ad s pos ok sim => wpAny_items_nil ⟨Z, sim.refl, .nil⟩
theorem WEs.cons {es : List Expr} {ds : List D} (he : WE g k env ρ c e d c1) (hs : WEs g k env ρ c1 es ds c2) (hst : starEach (e :: es) env = (false, eval e env) :: starEach es env := by rfl) : WEs g k env ρ c (e :: es) (d :: ds) c2 :=
  .mk fun A E B Z ad s pos ok sim => wpAny_items_cons (wpAny_mono (he.go A E B Z ad s ok sim) (fun v s1 ⟨Z1, x1, r1⟩ => wpAny_mono (hs.go A E B Z1 ad s1 pos ok (sim.ext x1)) (fun vs s2 ⟨Z2, x2, r2⟩ => ⟨Z2, x1.trans x2, .cons (Rep.mono r1 x2.le) r2⟩) fun _ _ e => e) fun _ _ e => e) hst

theorem WO.list {es : List Expr} {ds : List D} (hs : WEs g k env ρ c es ds c') (hsz : ds.length ≤ sizeLine := by simp [sizeLine]) : WO g k env ρ c (.List es p) (.list ds) c' := .mk fun A E B Z ad s ok sim =>
  wpAny_List (wpAny_mono (hs.go A E B Z ad s p ok sim) (fun vs s1 ⟨Z1, x1, r1⟩ => ⟨by rw [r1.length]; exact hsz, Z1, _, rfl, x1.trans (Ext.push x1.zin x1.clk _), x1.back (fresh_none _), x1.zin.fresh, vs, ⟨0, Heap.get?_push_size _ rfl⟩, r1⟩) fun _ _ e => e)
theorem WE.tup {es : List Expr} {ds : List D} {kk : Nat} (hs : WEs g k env ρ c es ds c') (hsz : ds.length ≤ sizeLine := by simp [sizeLine]) : WE g k env ρ c (.Tuple es kk p) (.tup ds) c' := .mk fun A E B Z ad s ok sim =>
  wpAny_Tuple (wpAny_mono (hs.go A E B Z ad s p ok sim) (fun vs s1 ⟨Z1, x1, r1⟩ => ⟨by rw [r1.length]; exact hsz, by
    have ho : (s1.heap.push { cls := .type "tuple", data := .seq vs.toArray }).get? s1.heap.objs.size = some { cls := .type "tuple", data := .seq vs.toArray } := Heap.get?_push_size _ rfl
    exact ⟨Z1.add _ _, x1.trans ((Ext.push x1.zin x1.clk _).freeze ho x1.zin.fresh (fresh_none _)), Own.freeze (d := .tup ds) ⟨vs, ⟨0, ho⟩, r1⟩ ho x1.zin.fresh⟩⟩) fun _ _ e => e)
theorem WO.dict {mg mb : Str → Option Value} (G : Gd g mg mb) : WO g k env ρ c (.Dict [] [] p) (.dI []) c ∧ WO g k env ρ c (.Dict [] [] p) (.dS []) c ∧ WO g k env ρ c (.Dict [] [] p) (.dT []) c := by
  have ns : ∀ {B Z ad s}, SimA g env B Z ad ρ c s → (s.objs.size == sysModules) = false := fun {B Z ad s} sim => by
    obtain ⟨a, o, hle, e⟩ := G.sys
    have := Heap.lt_size (sim.ground _ o e)
    exact beq_eq_false_iff_ne.mpr (Nat.ne_of_gt (Nat.lt_of_le_of_lt hle this))
  refine ⟨?_, ?_, ?_⟩ <;> constructor <;> intro A E B Z ad s ok sim <;> refine wpAny_Dict_empty ?_ <;> refine ⟨Z, _, rfl, Ext.push sim.zin sim.clk _, fresh_none _, sim.zin.fresh, ns sim, [], ?_⟩
  · exact ⟨Heap.DictOf.new _, .nil⟩
  · exact ⟨Heap.DictOf.new _, .nil⟩
  · exact ⟨Heap.DictOfH.new _, (fun x hx => by simp at hx), .nil⟩

/-! a key in a list -/
noncomputable def D.kind : D → Nat
  | .int _ => 1
  | .str _ => 2
  | _ => 0
noncomputable def D.same : D → D → Bool
  | .int a, .int b => a == b
  | .str a, .str b => a == b
  | _, _ => false
noncomputable def eV : D → Value → Bool
  | .int k, v => isInt k v
  | .str x, v => isStrOf x v
  | _, _ => false
theorem eV_any {key : D} : ∀ {vs : List Value} {ds : List D}, RepL g Z vs ds → ds.all (fun d => d.kind == key.kind) = true → key.kind ≠ 0 → vs.any (eV key) = ds.any (fun d => d.same key)
  | _, _, .nil, _, _ => rfl
  | _, _, .cons (a := v) (b := d) hr t, ha, hk => by
    simp only [List.all_cons, Bool.and_eq_true, beq_iff_eq] at ha
    rw [List.any_cons, List.any_cons, eV_any t ha.2 hk]
    congr 1
    cases key <;> simp only [D.kind, ne_eq, not_true_eq_false] at hk <;> cases d <;> simp only [D.kind] at ha <;> first | (exfalso; exact absurd ha.1 (by decide)) | (cases hr; rfl)
theorem eV_eq {key : D} {w : Value} {A : Around} {s : Shared} (hw : g.Rep Z w key) : ∀ {vs : List Value} {ds : List D}, RepL g Z vs ds → ds.all (fun d => d.kind == key.kind) = true → key.kind ≠ 0 → ∀ y ∈ vs, PySem.SeqAt.EqAt A s y w (eV key y)
  | _, _, .nil, _, _, y, hy => by simp at hy
  | _, _, .cons (a := v) (b := d) hr t, ha, hk, y, hy => by
    simp only [List.all_cons, Bool.and_eq_true, beq_iff_eq] at ha
    rcases List.mem_cons.mp hy with rfl | hy
    · cases hw <;> simp only [D.kind, ne_eq, not_true_eq_false] at hk <;> cases hr <;> simp only [D.kind] at ha <;> first | (exfalso; exact absurd ha.1 (by decide)) | exact (MeetsSeq.EqGives.int _ _ _ _).at _ _ | exact (eqGives_str _ _ _ _).at _ _
    · exact eV_eq hw t ha.2 hk y hy

/-- a value against a container -/
noncomputable def CmpC (g : Cx) (k : Nat) (op : CmpOp) (d1 d2 : D) (b : Bool) : Prop :=
  ∀ A E Z c s v a, OkA k A → Z.In s.heap → Clk g Z s.heap c → Z g.κ = none → g.Rep Z v d1 → g.Own s.heap Z a d2 →
    wpAny g.M A (compareOp op v (.ref a)) (fun v s' => v = .bool b ∧ Ext g Z Z s s' c) E s

theorem CmpC.in_list {key : D} {ds : List D} (ha : ds.all (fun d => d.kind == key.kind) = true) (hk : key.kind ≠ 0 := by simp [D.kind]) : CmpC g k .In key (.list ds) (ds.any fun d => d.same key) := fun A E Z c s v a ok zi ck _ r ow => by
  obtain ⟨vs, pl, rl⟩ := ow
  refine PySem.SeqAt.in_listAt (eV key) pl.isList (fun y hy => eV_eq r rl ha hk y (by simpa using hy)) ?_
  rw [← Array.any_toList, show vs.toArray.toList = vs from rfl, eV_any rl ha hk]
  exact ⟨rfl, .pure zi ck⟩
theorem CmpC.notIn_list {key : D} {ds : List D} (ha : ds.all (fun d => d.kind == key.kind) = true) (hk : key.kind ≠ 0 := by simp [D.kind]) : CmpC g k .NotIn key (.list ds) (!ds.any fun d => d.same key) := fun A E Z c s v a ok zi ck _ r ow => by
  obtain ⟨vs, pl, rl⟩ := ow
  refine PySem.SeqAt.notIn_listAt (eV key) pl.isList (fun y hy => eV_eq r rl ha hk y (by simpa using hy)) ?_
  rw [← Array.any_toList, show vs.toArray.toList = vs from rfl, eV_any rl ha hk]
  exact ⟨rfl, .pure zi ck⟩
theorem CmpC.in_tup {key : D} {ds : List D} (ha : ds.all (fun d => d.kind == key.kind) = true) (hk : key.kind ≠ 0 := by simp [D.kind]) : CmpC g k .In key (.tup ds) (ds.any fun d => d.same key) := fun A E Z c s v a ok zi ck _ r ow => by
  obtain ⟨vs, pl, rl⟩ := ow
  refine PySem.SeqAt.in_tupleAt (eV key) pl.isTuple (fun y hy => eV_eq r rl ha hk y (by simpa using hy)) ?_
  rw [← Array.any_toList, show vs.toArray.toList = vs from rfl, eV_any rl ha hk]
  exact ⟨rfl, .pure zi ck⟩

/-! a key in a dict -/
theorem valueAt_cons {K : Type} [DecidableEq K] (kv : K × Value) (l : List (K × Value)) (x : K) : valueAt (kv :: l) x = if kv.1 = x then some kv.2 else valueAt l x := by
  unfold valueAt
  rw [List.find?_cons]
  by_cases hk : kv.1 = x
  · simp [hk]
  · simp [hk]
theorem look_kv {K : Type} [DecidableEq K] (x : K) : ∀ {kvs : List (K × Value)} {es : List (K × D)}, RepKV g Z kvs es →
    (∀ d, es.lookup x = some d → ∃ v, valueAt kvs x = some v ∧ g.Rep Z v d) ∧ (es.lookup x = Option.none → valueAt kvs x = Option.none)
  | _, _, .nil => ⟨fun d h => (by simp at h), fun _ => rfl⟩
  | _, _, .cons (a := a) (b := b) hr t => by
    have ih := look_kv x t
    obtain ⟨k1, v1⟩ := a
    obtain ⟨k2, d2⟩ := b
    obtain ⟨hk, hv⟩ := hr
    simp only at hk hv
    subst hk
    rw [List.lookup_cons, valueAt_cons]
    by_cases hx : k1 = x
    · subst hx
      simp only [beq_self_eq_true, if_true, Option.some.injEq]
      exact ⟨fun d e => by subst e; exact ⟨v1, rfl, hv⟩, fun e => by cases e⟩
    · have hb : (x == k1) = false := beq_eq_false_iff_ne.mpr fun e => hx e.symm
      simp only [hb, hx, if_false]
      exact ih
theorem some_kv {K : Type} [DecidableEq K] (x : K) {kvs : List (K × Value)} {es : List (K × D)} (r : RepKV g Z kvs es) : (valueAt kvs x).isSome = (es.lookup x).isSome := by
  have := look_kv x r
  cases e : es.lookup x with
  | none => rw [this.2 e]; rfl
  | some d => obtain ⟨v, hv, _⟩ := this.1 d e; rw [hv]; rfl
theorem atKey_cons (x : List Str × Addr × Value) (l) (k : List Str) : atKey (x :: l) k = if x.1 = k then some x.2 else atKey l k := by
  unfold atKey
  rw [List.find?_cons]
  by_cases hk : x.1 = k
  · simp [hk]
  · simp [hk]
theorem look_kt (x y : Str) : ∀ {xs : List (List Str × Addr × Value)} {es : List ((Str × Str) × D)}, RepKT g Z xs es →
    (∀ d, es.lookup (x, y) = some d → ∃ q, atKey xs [x, y] = some q ∧ g.Rep Z q.2 d) ∧ (es.lookup (x, y) = Option.none → atKey xs [x, y] = Option.none)
  | _, _, .nil => ⟨fun d h => (by simp at h), fun _ => rfl⟩
  | _, _, .cons (a := a) (b := b) hr t => by
    have ih := look_kt x y t
    obtain ⟨k1, q1⟩ := a
    obtain ⟨⟨u, v⟩, d2⟩ := b
    obtain ⟨hk, hv⟩ := hr
    simp only at hk hv
    subst hk
    rw [List.lookup_cons, atKey_cons]
    by_cases hx : x = u ∧ y = v
    · obtain ⟨rfl, rfl⟩ := hx
      simp only [beq_self_eq_true, if_true, Option.some.injEq]
      exact ⟨fun d e => by subst e; exact ⟨q1, rfl, hv⟩, fun e => by cases e⟩
    · have hb : ((x, y) == (u, v)) = false := beq_eq_false_iff_ne.mpr fun e => hx (by cases e; exact ⟨rfl, rfl⟩)
      have hl : ¬ ([u, v] = [x, y]) := fun e => hx (by simp only [List.cons.injEq, and_true] at e; exact ⟨e.1.symm, e.2.symm⟩)
      simp only [hb, hl, if_false]
      exact ih
theorem some_kt (x y : Str) {xs} {es} (r : RepKT g Z xs es) : (atKey xs [x, y]).isSome = (es.lookup (x, y)).isSome := by
  have := look_kt x y r
  cases e : es.lookup (x, y) with
  | none => rw [this.2 e]; rfl
  | some d => obtain ⟨v, hv, _⟩ := this.1 d e; rw [hv]; rfl

theorem key_int {v : Value} {i : Int} (r : g.Rep Z v (.int i)) : (intKind g.prog g.w).is i v = true := by obtain ⟨_, rfl⟩ := rep_int r; exact intKind_is _ _ _ _
theorem key_str {v : Value} {x : Str} (r : g.Rep Z v (.str x)) : (strKind g.prog g.w).is x v = true := by obtain ⟨_, rfl⟩ := rep_str r; exact strKind_is _ _ _ _
theorem key_tup {v : Value} {x y : Str} (r : g.Rep Z v (.tup [.str x, .str y])) (i : Z.In h) : ∃ b, v = .ref b ∧ Z.Says (fun h => (tupleKind (strKind g.prog g.w)).is h [x, y] b) := by
  cases r with
  | tup a vs ds h0 h1 h2 h3 =>
    refine ⟨a, rfl, fun h i => ?_⟩
    obtain ⟨n, e⟩ := h1 h i
    match vs, h2, h3, e with
    | [u, v], _, h3, e =>
      exact ⟨_, _, n, e, rfl, rfl, .cons (key_str (h3 0 u _ rfl rfl)) (.cons (key_str (h3 1 v _ rfl rfl)) .nil)⟩

theorem CmpC.in_dI {i : Int} {es : List (Int × D)} : CmpC g k .In (.int i) (.dI es) (es.lookup i).isSome := fun A E Z c s v a ok zi ck _ r ow => by
  obtain ⟨hs, kvs, dd, rk⟩ := ow
  exact wpAny_in_of (key_int r) hs dd.mapOf ⟨by rw [some_kv i rk], .pure zi ck⟩
theorem CmpC.notIn_dI {i : Int} {es : List (Int × D)} : CmpC g k .NotIn (.int i) (.dI es) (!(es.lookup i).isSome) := fun A E Z c s v a ok zi ck _ r ow => by
  obtain ⟨hs, kvs, dd, rk⟩ := ow
  exact wpAny_notIn_of (key_int r) hs dd.mapOf ⟨by rw [some_kv i rk], .pure zi ck⟩
theorem CmpC.in_dS {x : Str} {es : List (Str × D)} : CmpC g k .In (.str x) (.dS es) (es.lookup x).isSome := fun A E Z c s v a ok zi ck _ r ow => by
  obtain ⟨hs, kvs, dd, rk⟩ := ow
  exact wpAny_in_of (key_str r) hs dd.mapOf ⟨by rw [some_kv x rk], .pure zi ck⟩
theorem CmpC.in_dT {x y : Str} {es : List ((Str × Str) × D)} : CmpC g k .In (.tup [.str x, .str y]) (.dT es) (es.lookup (x, y)).isSome := fun A E Z c s v a ok zi ck _ r ow => by
  obtain ⟨hs, xs, dd, hsay, rk⟩ := ow
  obtain ⟨b, rfl, hb⟩ := key_tup r zi
  exact wpAny_in_heap (tupleKind_room_in1 (ok.cr 1 (by decide))) (hb _ zi) hs dd ⟨by rw [some_kt x y rk], .pure zi ck⟩
theorem CmpC.notIn_dT {x y : Str} {es : List ((Str × Str) × D)} : CmpC g k .NotIn (.tup [.str x, .str y]) (.dT es) (!(es.lookup (x, y)).isSome) := fun A E Z c s v a ok zi ck _ r ow => by
  obtain ⟨hs, xs, dd, hsay, rk⟩ := ow
  obtain ⟨b, rfl, hb⟩ := key_tup r zi
  exact wpAny_notIn_heap (tupleKind_room_in1 (ok.cr 1 (by decide))) (hb _ zi) hs dd ⟨by rw [some_kt x y rk], .pure zi ck⟩
end Mine
end

section
open PySem PySem.W PyProof.Rows
set_option linter.unusedVariables false
set_option maxRecDepth 100000
namespace Mine
variable {g : Cx} {k : Nat} {env : Env} {B Z Z' Z'' : Zm} {ad : Str → Addr} {ρ : Rho} {c c' c'' c1 c2 c3 : Int} {h h' h'' : Heap} {e l r : Expr} {d d1 d2 : D} {p : Pos}

theorem ints_of : ∀ {vs : List Value} {ns : List Int}, RepL g Z vs (ns.map D.int) → IntsAre vs ns
  | [], [], _ => .nil
  | [], _ :: _, x => by cases x
  | _ :: _, [], x => by cases x
  | v :: vs, n :: ns, .cons hr t => by obtain ⟨_, rfl⟩ := rep_int hr; exact .cons _ _ (ints_of t)

noncomputable def CmpCC (g : Cx) (k : Nat) (op : CmpOp) (d1 d2 : D) (b : Bool) : Prop :=
  ∀ A E Z c s a a', OkA k A → Z.In s.heap → Clk g Z s.heap c → Z g.κ = none → g.Own s.heap Z a d1 → g.Own s.heap Z a' d2 →
    wpAny g.M A (compareOp op (.ref a) (.ref a')) (fun v s' => v = .bool b ∧ Ext g Z Z s s' c) E s
theorem CmpCC.eq {ns ms : List Int} : CmpCC g k .Eq (.list (ns.map D.int)) (.list (ms.map D.int)) (decide (ns = ms)) := fun A E Z c s a a' ok zi ck _ o1 o2 => by
  obtain ⟨vs, p1, r1⟩ := o1
  obtain ⟨ws, p2, r2⟩ := o2
  exact eq_intsK p1.isList (ints_of r1) p2.isList (ints_of r2) (ok.cr 64 (by decide)) ⟨rfl, .pure zi ck⟩
theorem CmpCC.ne {ns ms : List Int} : CmpCC g k .NotEq (.list (ns.map D.int)) (.list (ms.map D.int)) (!decide (ns = ms)) := fun A E Z c s a a' ok zi ck _ o1 o2 => by
  obtain ⟨vs, p1, r1⟩ := o1
  obtain ⟨ws, p2, r2⟩ := o2
  exact ne_intsK p1.isList (ints_of r1) p2.isList (ints_of r2) (ok.cr 64 (by decide)) ⟨rfl, .pure zi ck⟩

/-- the two sides of a comparison, in whatever way -/
structure WCmp (g : Cx) (k : Nat) (env : Env) (ρ : Rho) (c : Int) (op : CmpOp) (l r : Expr) (b : Bool) (c' : Int) : Prop where
  go : ∀ A E B Z ad s, OkA k A → SimA g env B Z ad ρ c s.heap →
    wpAny g.M A (eval l env) (fun x s1 => wpAny g.M A (eval r env) (fun y s2 => wpAny g.M A (compareOp op x y) (fun v s' => v = .bool b ∧ ∃ Z', Ext g Z Z' s s' c') E s2) E s1) E s
theorem WCmp.vv {op : CmpOp} {b : Bool} (hl : WE g k env ρ c l d1 c1) (hr : WE g k env ρ c1 r d2 c2) (ho : CmpV g k op d1 d2 b) : WCmp g k env ρ c op l r b c2 := .mk fun A E B Z ad s ok sim =>
  wpAny_mono (hl.go A E B Z ad s ok sim) (fun v1 s1 ⟨Z1, x1, r1⟩ => wpAny_mono (hr.go A E B Z1 ad s1 ok (sim.ext x1)) (fun v2 s2 ⟨Z2, x2, r2⟩ =>
    wpAny_mono (ho A E Z2 c2 s2 v1 v2 ok x2.zin x2.clk ((sim.ext x1).ext x2).kap.1 (Rep.mono r1 x2.le) r2) (fun v s3 ⟨hv, x3⟩ => ⟨hv, Z2, (x1.trans x2).trans x3⟩) fun _ _ e => e) fun _ _ e => e) fun _ _ e => e
theorem WCmp.vc {op : CmpOp} {b : Bool} (hl : WE g k env ρ c l d1 c1) (hr : WC g k env ρ c1 r d2 c2) (ho : CmpC g k op d1 d2 b) : WCmp g k env ρ c op l r b c2 := .mk fun A E B Z ad s ok sim =>
  wpAny_mono (hl.go A E B Z ad s ok sim) (fun v1 s1 ⟨Z1, x1, r1⟩ => wpAny_mono (hr.go A E B Z1 ad s1 ok (sim.ext x1)) (fun v2 s2 ⟨Z2, a, hv, hk, x2, ow⟩ => by
    subst hv
    exact wpAny_mono (ho A E Z2 c2 s2 v1 a ok x2.zin x2.clk ((sim.ext x1).ext x2).kap.1 (Rep.mono r1 x2.le) ow) (fun v s3 ⟨hv, x3⟩ => ⟨hv, Z2, (x1.trans x2).trans x3⟩) fun _ _ e => e) fun _ _ e => e) fun _ _ e => e
theorem WCmp.cc {op : CmpOp} {b : Bool} (hl : WC g k env ρ c l d1 c1) (hr : WC g k env ρ c1 r d2 c2) (ho : CmpCC g k op d1 d2 b) : WCmp g k env ρ c op l r b c2 := .mk fun A E B Z ad s ok sim =>
  wpAny_mono (hl.go A E B Z ad s ok sim) (fun v1 s1 ⟨Z1, a1, hv1, hk1, x1, o1⟩ => wpAny_mono (hr.go A E B Z1 ad s1 ok (sim.ext x1)) (fun v2 s2 ⟨Z2, a, hv, hk, x2, ow⟩ => by
    subst hv hv1
    exact wpAny_mono (ho A E Z2 c2 s2 a1 a ok x2.zin x2.clk ((sim.ext x1).ext x2).kap.1 (Own.frame o1 (x2.keeps hk1) x2.le (x2.zin.le x2.le)) ow) (fun v s3 ⟨hv, x3⟩ => ⟨hv, Z2, (x1.trans x2).trans x3⟩) fun _ _ e => e) fun _ _ e => e) fun _ _ e => e

theorem WCmp.toE {op : CmpOp} {b : Bool} (x : WCmp g k env ρ c op l r b c') (hm : behindInMarks op r = false := by with_unfolding_all rfl) : WE g k env ρ c (.Compare l [op] [r] p) (.bool b) c' := .mk fun A E B Z ad s ok sim =>
  wpAny_Compare1 (wpAny_mono (x.go A E B Z ad s ok sim) (fun v1 s1 h1 => wpAny_mono h1 (fun v2 s2 h2 => wpAny_mono h2 (fun v s3 ⟨hv, Z', x3⟩ => ⟨Z', x3, by subst hv; exact .bool b⟩) fun _ _ e => e) fun _ _ e => e) fun _ _ e => e) hm
theorem WCmp.toT {op : CmpOp} {b : Bool} (x : WCmp g k env ρ c op l r b c') (hm : behindInMarks op r = false := by with_unfolding_all rfl) : WT g k env ρ c (.Compare l [op] [r] p) b c' := .mk fun A E B Z ad s ok sim =>
  wpAny_isTrue_Compare1 (wpAny_mono (x.go A E B Z ad s ok sim) (fun v1 s1 h1 => wpAny_mono h1 (fun v2 s2 h2 => wpAny_mono h2 (fun v s3 ⟨hv, Z', x3⟩ => by subst hv; exact wpAny_truthy_bool ⟨rfl, Z', x3⟩) fun _ _ e => e) fun _ _ e => e) fun _ _ e => e) hm

/-! tests -/
structure WTs (g : Cx) (k : Nat) (env : Env) (ρ : Rho) (c : Int) (op : BoolOp) (es : List Expr) (b : Bool) (c' : Int) : Prop where
  go : ∀ A E B Z ad s, OkA k A → SimA g env B Z ad ρ c s.heap → wpAny g.M A (allTrue op es env) (fun r s' => r = b ∧ ∃ Z', Ext g Z Z' s s' c') E s
theorem WTs.and_nil : WTs g k env ρ c .And [] true c := .mk fun A E B Z ad s ok sim => wpAny_allTrue_And_nil ⟨rfl, Z, sim.refl⟩
theorem WTs.or_nil : WTs g k env ρ c .Or [] false c := .mk fun A E B Z ad s ok sim => wpAny_allTrue_Or_nil ⟨rfl, Z, sim.refl⟩
theorem WTs.and_cons {es : List Expr} {b b' : Bool} (h1 : WT g k env ρ c e b c) (h2 : b = true → WTs g k env ρ c .And es b' c) : WTs g k env ρ c .And (e :: es) (b && b') c := .mk fun A E B Z ad s ok sim =>
  wpAny_allTrue_And_cons (wpAny_mono (h1.go A E B Z ad s ok sim) (fun r s1 ⟨hr, Z1, x1⟩ => by
    subst hr
    cases r with
    | false => exact ⟨rfl, Z1, x1⟩
    | true => exact wpAny_mono ((h2 rfl).go A E B Z1 ad s1 ok (sim.ext x1)) (fun r s2 ⟨hr, Z2, x2⟩ => ⟨hr, Z2, x1.trans x2⟩) fun _ _ e => e) fun _ _ e => e)
/-- a conjunct that moves the clock, asked only where the first holds -/
theorem WTs.and_cons' {es : List Expr} {b b' : Bool} (h1 : WT g k env ρ c e b c) (h2 : b = true → WTs g k env ρ c .And es b' c2) (hc : b = false → c2 = c) : WTs g k env ρ c .And (e :: es) (b && b') c2 := .mk fun A E B Z ad s ok sim =>
  wpAny_allTrue_And_cons (wpAny_mono (h1.go A E B Z ad s ok sim) (fun r s1 ⟨hr, Z1, x1⟩ => by
    subst hr
    cases r with
    | false => rw [hc rfl]; exact ⟨rfl, Z1, x1⟩
    | true => exact wpAny_mono ((h2 rfl).go A E B Z1 ad s1 ok (sim.ext x1)) (fun r s2 ⟨hr, Z2, x2⟩ => ⟨hr, Z2, x1.trans x2⟩) fun _ _ e => e) fun _ _ e => e)
theorem WTs.or_cons {es : List Expr} {b b' : Bool} (h1 : WT g k env ρ c e b c) (h2 : b = false → WTs g k env ρ c .Or es b' c) : WTs g k env ρ c .Or (e :: es) (b || b') c := .mk fun A E B Z ad s ok sim =>
  wpAny_allTrue_Or_cons (wpAny_mono (h1.go A E B Z ad s ok sim) (fun r s1 ⟨hr, Z1, x1⟩ => by
    subst hr
    cases r with
    | true => exact ⟨rfl, Z1, x1⟩
    | false => exact wpAny_mono ((h2 rfl).go A E B Z1 ad s1 ok (sim.ext x1)) (fun r s2 ⟨hr, Z2, x2⟩ => ⟨hr, Z2, x1.trans x2⟩) fun _ _ e => e) fun _ _ e => e)
theorem WTs.toT {op : BoolOp} {es : List Expr} {b : Bool} (x : WTs g k env ρ c op es b c') : WT g k env ρ c (.BoolOp op es p) b c' := .mk fun A E B Z ad s ok sim => wpAny_isTrue_BoolOp (x.go A E B Z ad s ok sim)
theorem WT.not {b : Bool} (x : WT g k env ρ c e b c') : WT g k env ρ c (.UnaryOp .Not e p) (!b) c' := .mk fun A E B Z ad s ok sim =>
  wpAny_isTrue_Not (wpAny_mono (x.go A E B Z ad s ok sim) (fun r s1 ⟨hr, Z1, x1⟩ => ⟨by rw [hr], Z1, x1⟩) fun _ _ e => e)
/-- the truth of a value that is a bool -/
theorem WT.val {b : Bool} (x : WE g k env ρ c e (.bool b) c') (he : ∀ whole, isTrue e env whole = (do let v ← whole; standAt e.pos; holding [v] (truthy v)) := by intro _; rfl) : WT g k env ρ c e b c' := .mk fun A E B Z ad s ok sim =>
  wpAny_isTrue_value (wpAny_mono (x.go A E B Z ad s ok sim) (fun v s1 ⟨Z1, x1, r⟩ => by obtain rfl := rep_bool r; exact wpAny_truthy_bool ⟨rfl, Z1, x1⟩) fun _ _ e => e) (he _)

theorem WE.ifexp {t b o : Expr} {bb : Bool} (ht : WT g k env ρ c t bb c1) (h1 : bb = true → WE g k env ρ c1 b d c2) (h2 : bb = false → WE g k env ρ c1 o d c2) : WE g k env ρ c (.IfExp t b o p) d c2 := .mk fun A E B Z ad s ok sim =>
  wpAny_IfExp (wpAny_mono (ht.go A E B Z ad s ok sim) (fun r s1 ⟨hr, Z1, x1⟩ => by
    subst hr
    cases r with
    | true => exact wpAny_mono ((h1 rfl).go A E B Z1 ad s1 ok (sim.ext x1)) (fun v s2 ⟨Z2, x2, r2⟩ => ⟨Z2, x1.trans x2, r2⟩) fun _ _ e => e
    | false => exact wpAny_mono ((h2 rfl).go A E B Z1 ad s1 ok (sim.ext x1)) (fun v s2 ⟨Z2, x2, r2⟩ => ⟨Z2, x1.trans x2, r2⟩) fun _ _ e => e) fun _ _ e => e)
theorem WE.not {b : Bool} (x : WE g k env ρ c e (.bool b) c') : WE g k env ρ c (.UnaryOp .Not e p) (.bool !b) c' := .mk fun A E B Z ad s ok sim =>
  wpAny_UnaryOp (wpAny_mono (x.go A E B Z ad s ok sim) (fun v s1 ⟨Z1, x1, r⟩ => by obtain rfl := rep_bool r; exact not_value (wpAny_truthy_bool ⟨Z1, x1, .bool _⟩)) fun _ _ e => e)

/-- «and» as a value, of bools -/
structure WBs (g : Cx) (k : Nat) (env : Env) (pos : Pos) (ρ : Rho) (c : Int) (es : List Expr) (b : Bool) (c' : Int) : Prop where
  go : ∀ A E B Z ad s, OkA k A → SimA g env B Z ad ρ c s.heap → wpAny g.M A (boolOp pos .And (evalEach es env)) (fun v s' => v = .bool b ∧ ∃ Z', Ext g Z Z' s s' c') E s
theorem WBs.one {b : Bool} {pos : Pos} (x : WE g k env ρ c e (.bool b) c') : WBs g k env pos ρ c [e] b c' := .mk fun A E B Z ad s ok sim =>
  show wpAny g.M A (eval e env) _ E s from wpAny_mono (x.go A E B Z ad s ok sim) (fun v s1 ⟨Z1, x1, r⟩ => by obtain rfl := rep_bool r; exact ⟨rfl, Z1, x1⟩) fun _ _ e => e
theorem WBs.cons {es : List Expr} {b b' : Bool} {pos : Pos} {e' : Expr} (x : WE g k env ρ c e (.bool b) c) (y : b = true → WBs g k env pos ρ c (e' :: es) b' c) : WBs g k env pos ρ c (e :: e' :: es) (b && b') c := .mk fun A E B Z ad s ok sim => by
  show wpAny _ A (do
    let v ← eval e env
    standAt pos
    let t ← holding [v] (truthy v)
    match BoolOp.And, t with
    | .And, false | .Or, true => pure v
    | _, _ => boolOp pos .And (evalEach (e' :: es) env)) _ E s
  refine wpAny_bind (wpAny_mono (x.go A E B Z ad s ok sim) (fun v s1 ⟨Z1, x1, r⟩ => ?_) fun _ _ e => e)
  obtain rfl := rep_bool r
  refine wpAny_bind (wpAny_standAt (wpAny_bind (wpAny_holding (wpAny_truthy_bool ?_))))
  cases b with
  | false => exact wpAny_pure ⟨rfl, Z1, x1⟩
  | true => exact wpAny_mono ((y rfl).go A E B Z1 ad s1 ok (sim.ext x1)) (fun r s2 ⟨hr, Z2, x2⟩ => ⟨hr, Z2, x1.trans x2⟩) fun _ _ e => e
theorem WE.and {es : List Expr} {b : Bool} (x : WBs g k env p ρ c es b c') : WE g k env ρ c (.BoolOp .And es p) (.bool b) c' := .mk fun A E B Z ad s ok sim =>
  show wpAny g.M A (boolOp p .And (evalEach es env)) _ E s from wpAny_mono (x.go A E B Z ad s ok sim) (fun v s1 ⟨hv, Z1, x1⟩ => ⟨Z1, x1, by subst hv; exact .bool b⟩) fun _ _ e => e

/-! items -/
noncomputable def SubV (g : Cx) (k : Nat) (dc di d : D) : Prop :=
  ∀ A E Z c s a v, OkA k A → Z.In s.heap → Clk g Z s.heap c → Z g.κ = none → g.Own s.heap Z a dc → g.Rep Z v di →
    (∃ T id, s.TypeIs (.ref a) T ∧ typeLookup (.type T) "__getitem__" = pure (some (.builtin id))) ∧
    wpAny g.M A (getItem (.ref a) v) (fun r s' => Ext g Z Z s s' c ∧ g.Rep Z r d) E s
theorem subs_any (sl : Expr) (o i : Value) : ∃ ops, subscripted sl false o i = operate ops (getItem o i) := by
  unfold subscripted
  split
  · exact ⟨_, rfl⟩
  · rename_i hh; cases hh
  · exact ⟨_, rfl⟩
theorem WE.sub {v i : Expr} {dc di : D} (hv : WC g k env ρ c v dc c1) (hi : WE g k env ρ c1 i di c2) (hs : SubV g k dc di d) : WE g k env ρ c (.Subscript v i p) d c2 := .mk fun A E B Z ad s ok sim =>
  Subscript_ (wpAny_mono (hv.go A E B Z ad s ok sim) (fun v1 s1 ⟨Z1, a, ha, hk, x1, ow⟩ => wpAny_mono (hi.go A E B Z1 ad s1 ok (sim.ext x1)) (fun v2 s2 ⟨Z2, x2, r2⟩ => by
    subst ha
    obtain ⟨⟨T, id, hT, hl⟩, hg⟩ := hs A E Z2 c2 s2 a v2 ok x2.zin x2.clk ((sim.ext x1).ext x2).kap.1 (Own.frame ow (x2.keeps hk) x2.le (x2.zin.le x2.le)) r2
    obtain ⟨ops, ho⟩ := subs_any i (.ref a) v2
    exact tail_any hT hl (wpAny_mono hg (fun r s3 ⟨x3, r3⟩ => ⟨Z2, (x1.trans x2).trans x3, r3⟩) fun _ _ e => e) ho) fun _ _ e => e) fun _ _ e => e)

theorem SubV.list {ds : List D} {i : Int} (h0 : 0 ≤ i) (hi : i < 2 ^ 63) (hd : ds[i.toNat]? = some d) : SubV g k (.list ds) (.int i) d := fun A E Z c s a v ok zi ck _ ow r => by
  obtain ⟨vs, pl, rl⟩ := ow
  obtain ⟨x, hx, rx⟩ := F2.get' rl hd
  obtain ⟨_, rfl⟩ := rep_int r
  exact ⟨⟨_, _, pl.isList.typeIs, slot_list_getitem.lookup⟩, wpAny_getItem_list pl.isList h0 hi (by simpa using hx) ⟨.pure zi ck, rx⟩⟩
theorem SubV.tup {ds : List D} {i : Int} (h0 : 0 ≤ i) (hi : i < 2 ^ 63) (hd : ds[i.toNat]? = some d) : SubV g k (.tup ds) (.int i) d := fun A E Z c s a v ok zi ck _ ow r => by
  obtain ⟨vs, ⟨n, pl⟩, rl⟩ := ow
  obtain ⟨x, hx, rx⟩ := F2.get' rl hd
  obtain ⟨_, rfl⟩ := rep_int r
  have hlt : i.toNat < vs.length := (List.getElem?_eq_some_iff.mp hx).1
  exact ⟨⟨_, _, ⟨_, pl, rfl⟩, PySem.F.slot_tuple_getitem.lookup⟩, PySem.P.getItem_tuple pl (by omega) hi (seqIndex_of h0 (by simp only [List.size_toArray]; omega)) (by simpa using hx) ⟨.pure zi ck, rx⟩⟩
/-- the last item -/
theorem SubV.last {ds : List D} (hd : ds.getLast? = some d) : SubV g k (.list ds) (.int (-1)) d := fun A E Z c s a v ok zi ck _ ow r => by
  obtain ⟨vs, pl, rl⟩ := ow
  rw [List.getLast?_eq_getElem?] at hd
  obtain ⟨x, hx, rx⟩ := F2.get' rl hd
  rw [← rl.length] at hx
  obtain ⟨_, rfl⟩ := rep_int r
  have hlt : vs.length - 1 < vs.length := (List.getElem?_eq_some_iff.mp hx).1
  exact ⟨⟨_, _, pl.isList.typeIs, slot_list_getitem.lookup⟩, wpAny_getItem_list_neg (k := -1) (x := x) pl.isList (by decide) (by simp only [List.size_toArray]; omega) (by decide) (by
    have e : ((-1 : Int) + ((vs.toArray.size : Nat) : Int)).toNat = vs.length - 1 := by simp only [List.size_toArray]; omega
    rw [e]; simpa using hx) ⟨.pure zi ck, rx⟩⟩
theorem SubV.dI {es : List (Int × D)} {i : Int} (hd : es.lookup i = some d) : SubV g k (.dI es) (.int i) d := fun A E Z c s a v ok zi ck _ ow r => by
  obtain ⟨hs, kvs, dd, rk⟩ := ow
  obtain ⟨x, hx, rx⟩ := (look_kv i rk).1 d hd
  exact ⟨⟨_, _, dd.typeIs, slot_dict_getitem.lookup⟩, wpAny_getItem_of (key_int r) dd.mapOf hx ⟨.pure zi ck, rx⟩⟩
theorem SubV.dS {es : List (Str × D)} {i : Str} (hd : es.lookup i = some d) : SubV g k (.dS es) (.str i) d := fun A E Z c s a v ok zi ck _ ow r => by
  obtain ⟨hs, kvs, dd, rk⟩ := ow
  obtain ⟨x, hx, rx⟩ := (look_kv i rk).1 d hd
  exact ⟨⟨_, _, dd.typeIs, slot_dict_getitem.lookup⟩, wpAny_getItem_of (key_str r) dd.mapOf hx ⟨.pure zi ck, rx⟩⟩
theorem SubV.dT {es : List ((Str × Str) × D)} {x y : Str} (hd : es.lookup (x, y) = some d) : SubV g k (.dT es) (.tup [.str x, .str y]) d := fun A E Z c s a v ok zi ck _ ow r => by
  obtain ⟨hs, xs, dd, hsay, rk⟩ := ow
  obtain ⟨b, rfl, hb⟩ := key_tup r zi
  obtain ⟨q, hq, rq⟩ := (look_kt x y rk).1 d hd
  exact ⟨⟨_, _, dd.typeIs, slot_dict_getitem.lookup⟩, wpAny_getItem_heap (tupleKind_room_in1 (ok.cr 1 (by decide))) (hb _ zi) dd hq ⟨.pure zi ck, rq⟩⟩
end Mine
end

section
open PySem PySem.W PyProof.Rows
set_option linter.unusedVariables false
set_option maxRecDepth 100000
namespace Mine
variable {g : Cx} {k : Nat} {env : Env} {B Z Z' Z'' : Zm} {ad : Str → Addr} {ρ : Rho} {c c' c'' c1 c2 c3 : Int} {h h' h'' : Heap} {e l r : Expr} {d d1 d2 : D} {p p1 p2 : Pos} {mg mb : Str → Option Value}

theorem evalGlob (G : Gd g mg mb) (sim : SimA g env B Z ad ρ c h) {s : Shared} (hh : s.heap = h) {A : Around} {E : Value → Shared → Prop} {Q : Value → Shared → Prop} {x : Str} {v : Value} (hx : env.kindOf x = some .globalImplicit) (hv : mg x = some v)
    (hq : Q v s) (hd : (x == ("__debug__" : Str)) = false) : wpAny g.M A (eval (.Name x p) env) Q E s := by
  subst hh
  exact Calls.Name_function_global sim.fn hx (Calls.loadGlobal_global (by rw [sim.gl]; exact G.gns.keeps sim.ground) hv hq) hd
theorem evalBuilt (G : Gd g mg mb) (sim : SimA g env B Z ad ρ c h) {s : Shared} (hh : s.heap = h) {A : Around} {E : Value → Shared → Prop} {Q : Value → Shared → Prop} {x : Str} {v : Value} (hx : env.kindOf x = some .globalImplicit) (hm : mg x = none) (hv : mb x = some v)
    (hq : Q v s) (hd : (x == ("__debug__" : Str)) = false) : wpAny g.M A (eval (.Name x p) env) Q E s := by
  subst hh
  exact Calls.Name_function_global sim.fn hx (Calls.loadGlobal_builtin (by rw [sim.gl]; exact G.gns.keeps sim.ground) hm (by rw [sim.bl]; exact G.bns.keeps sim.ground) hv hq) hd

theorem args1 {M : Model} {A : Around} {E : Value → Shared → Prop} {s : Shared} {Q : Value → Shared → Prop} {f : Value} {pos : Pos} (hs : starEach [e] env = [(false, eval e env)])
    (h : wpAny M A (callWith pos f [] [(false, eval e env)] []) Q E s) : wpAny M A (callWith pos f [] (backTo pos (starEach [e] env)) []) Q E s := by rw [hs]; exact h

theorem WE.len (G : Gd g mg mb) (hx : env.kindOf "len" = some .globalImplicit) (hv : WC g k env ρ c e d c') {n : Nat} (hn : (∃ ds, d = .list ds ∧ ds.length = n) ∨ ∃ ds, d = .tup ds ∧ ds.length = n) (hsz : n ≤ sizeLine)
    (hs : starEach [e] env = [(false, eval e env)] := by rfl) : WE g k env ρ c (.Call (.Name "len" p1) [e] [] p2) (.int n) c' := .mk fun A E B Z ad s ok sim => by
  have hz : (n : Int) < 2 ^ 63 := by rw [sizeLine_eq] at hsz; omega
  refine wpAny_Call_NameR (evalBuilt G sim rfl hx G.bLen.1 G.bLen.2 (args1 hs ?_) (by decide))
  refine Calls.callWith_builtin rfl (Calls.evalArgs_plain (Calls.spliced_cons (wpAny_mono (hv.go A E B Z ad s ok sim) (fun v s1 ⟨Z1, a, ha, hk, x1, ow⟩ => Calls.spliced_nil ?_) fun _ _ e => e)))
  subst ha
  rcases hn with ⟨ds, rfl, rfl⟩ | ⟨ds, rfl, rfl⟩
  · obtain ⟨vs, pl, rl⟩ := ow
    exact PySem.Calls.call_len_list pl.isList (by simp only [List.size_toArray, rl.length]; exact hz) ⟨Z1, x1.to, by simp only [List.size_toArray, rl.length]; exact .int _ _⟩
  · obtain ⟨vs, ⟨n, pl⟩, rl⟩ := ow
    exact PySem.P.len_tuple pl (by simp only [List.size_toArray, rl.length]; omega) ⟨Z1, x1.to, by simp only [List.size_toArray, rl.length]; exact .int _ _⟩

theorem WE.range (G : Gd g mg mb) (hx : env.kindOf "range" = some .globalImplicit) {n : Nat} (hv : WE g k env ρ c e (.int n) c') (hn : n < 2 ^ 60)
    (hs : starEach [e] env = [(false, eval e env)] := by rfl) : WE g k env ρ c (.Call (.Name "range" p1) [e] [] p2) (.rng n) c' := .mk fun A E B Z ad s ok sim => by
  refine wpAny_Call_NameR (evalBuilt G sim rfl hx G.bRange.1 G.bRange.2 (args1 hs ?_) (by decide))
  refine PySem.callWith_type rfl (Calls.evalArgs_plain (Calls.spliced_cons (wpAny_mono (hv.go A E B Z ad s ok sim) (fun v s1 ⟨Z1, x1, r1⟩ => Calls.spliced_nil ?_) fun _ _ e => e)))
  obtain ⟨_, rfl⟩ := rep_int r1
  refine call_range_1 ?_
  have ho : ∀ o : Obj, o.isFreed = false → (s1.heap.push o).get? s1.heap.objs.size = some o := fun o hf => Heap.get?_push_size _ hf
  refine ⟨Z1.add _ _, x1.trans ((Ext.pushT x1.zin x1.clk).freeze (ho _ rfl) x1.zin.fresh (fresh_none _)), .rng _ n ⟨_, Zm.add_self ..⟩ fun h i => ⟨hn, _, _, _, i _ _ (Zm.add_self ..)⟩⟩

theorem WO.listOf (G : Gd g mg mb) (hx : env.kindOf "list" = some .globalImplicit) {ds : List D} (hv : WC g k env ρ c e (.tup ds) c') (hsz : ds.length ≤ sizeLine)
    (hs : starEach [e] env = [(false, eval e env)] := by rfl) : WO g k env ρ c (.Call (.Name "list" p1) [e] [] p2) (.list ds) c' := .mk fun A E B Z ad s ok sim => by
  refine wpAny_Call_NameR (evalBuilt G sim rfl hx G.bList.1 G.bList.2 (args1 hs ?_) (by decide))
  refine PySem.callWith_type rfl (Calls.evalArgs_plain (Calls.spliced_cons (wpAny_mono (hv.go A E B Z ad s ok sim) (fun v s1 ⟨Z1, a, ha, hk, x1, ow⟩ => Calls.spliced_nil ?_) fun _ _ e => e)))
  subst ha
  obtain ⟨vs, ⟨n, pl⟩, rl⟩ := ow
  refine call_list_seq a (.inr rfl) pl rfl rfl (fun h' c'' hk' hn => ?_) (by simp only [List.size_toArray, rl.length]; exact hsz)
  exact ⟨Z1, _, rfl, x1.trans (.grow x1.zin x1.clk hk'), x1.back (fresh_none _), x1.zin.fresh, vs, ⟨c'', hn⟩, rl⟩

theorem WE.tupOf (G : Gd g mg mb) (hx : env.kindOf "tuple" = some .globalImplicit) {ds : List D} (hv : WC g k env ρ c e (.list ds) c') (hsz : ds.length ≤ sizeLine)
    (hs : starEach [e] env = [(false, eval e env)] := by rfl) : WE g k env ρ c (.Call (.Name "tuple" p1) [e] [] p2) (.tup ds) c' := .mk fun A E B Z ad s ok sim => by
  refine wpAny_Call_NameR (evalBuilt G sim rfl hx G.bTuple.1 G.bTuple.2 (args1 hs ?_) (by decide))
  refine PySem.callWith_type rfl (Calls.evalArgs_plain (Calls.spliced_cons (wpAny_mono (hv.go A E B Z ad s ok sim) (fun v s1 ⟨Z1, a, ha, hk, x1, ow⟩ => Calls.spliced_nil ?_) fun _ _ e => e)))
  subst ha
  obtain ⟨vs, pl, rl⟩ := ow
  refine call_tuple_list pl.isList (fun h' hk' => ?_) (by simp only [List.size_toArray, rl.length]; exact hsz)
  have x2 : Ext g Z1 Z1 s1 { s1 with heap := h' } c' := .grow x1.zin x1.clk hk'
  have ho : (h'.push { cls := .type "tuple", data := .seq vs.toArray }).get? h'.objs.size = some { cls := .type "tuple", data := .seq vs.toArray } := Heap.get?_push_size _ rfl
  exact ⟨Z1.add _ _, (x1.trans x2).trans ((Ext.pushT x2.zin x2.clk).freeze ho x2.zin.fresh (fresh_none _)), Own.freeze (d := .tup ds) ⟨vs, ⟨0, ho⟩, rl⟩ ho x2.zin.fresh⟩

theorem WE.strOf (G : Gd g mg mb) (hx : env.kindOf "str" = some .globalImplicit) {i : Int} (hv : WE g k env ρ c e (.int i) c') (hi : i.natAbs.log2 < 1920)
    (hs : starEach [e] env = [(false, eval e env)] := by rfl) : WE g k env ρ c (.Call (.Name "str" p1) [e] [] p2) (.str (Str.ofString (toString i))) c' := .mk fun A E B Z ad s ok sim => by
  refine wpAny_Call_NameR (evalBuilt G sim rfl hx G.bStr.1 G.bStr.2 (args1 hs ?_) (by decide))
  refine PySem.callWith_type rfl (Calls.evalArgs_plain (Calls.spliced_cons (wpAny_mono (hv.go A E B Z ad s ok sim) (fun v s1 ⟨Z1, x1, r1⟩ => Calls.spliced_nil ?_) fun _ _ e => e)))
  obtain ⟨_, rfl⟩ := rep_int r1
  exact PySem.P.str_of_int hi ⟨Z1, x1.to, .str _ _⟩

theorem ints_rep : ∀ {vs : List Value} {ns : List Int}, IntsAre vs ns → RepL g Z vs (ns.map D.int)
  | _, _, .nil => .nil
  | _, _, .cons n t r => .cons (.int _ _) (ints_rep r)
/-! sorted(d), d a dict of ints -/
theorem ints_of_keys {w : World} {prog : Program} : ∀ {vs : List Value} {ks : List Int}, vs.length = ks.length → (∀ (j : Nat) v, vs[j]? = some v → ∃ i, ks[j]? = some i ∧ (intKind prog w).is i v = true) → IntsAre vs ks
  | [], [], _, _ => .nil
  | [], _ :: _, h, _ => by simp at h
  | _ :: _, [], h, _ => by simp at h
  | v :: vs, i :: ks, h, q => by
    obtain ⟨j, hj, hi⟩ := q 0 v rfl
    simp at hj; subst hj
    obtain ⟨t, rfl⟩ := Value.isInt_shape hi
    exact .cons _ _ (ints_of_keys (by simpa using h) fun n v e => q (n + 1) v (by simpa using e))
theorem WO.sorted (G : Gd g mg mb) (hx : env.kindOf "sorted" = some .globalImplicit) {es : List (Int × D)} (hv : WC g k env ρ c e (.dI es) c') (h64 : es.length < 64) {ns : List Int} (hns : ∀ ms : List Int, ms.Perm (es.map (·.1)) → ms.Pairwise (· ≤ ·) → ms = ns)
    (hs : starEach [e] env = [(false, eval e env)] := by rfl) : WO g k env ρ c (.Call (.Name "sorted" p1) [e] [] p2) (.list (ns.map D.int)) c' := .mk fun A E B Z ad s ok sim => by
  refine wpAny_Call_NameR (evalBuilt G sim rfl hx G.bSorted.1 G.bSorted.2 (args1 hs ?_) (by decide))
  refine Calls.callWith_builtin rfl (Calls.evalArgs_plain (Calls.spliced_cons (wpAny_mono (hv.go A E B Z ad s ok sim) (fun v s1 ⟨Z1, a, ha, hk, x1, ow⟩ => Calls.spliced_nil ?_) fun _ _ e => e)))
  subst ha
  obtain ⟨hsm, kvs, dd, rk⟩ := ow
  obtain ⟨ep, hat⟩ := dd.dictAt
  have hlen : kvs.length = es.length := rk.length
  refine PySem.Calls.call_function_entry kind_sorted plain_sorted entry_sorted (args_sorted1 _) ?_
  unfold Builtin.«sorted»
  refine wpAny_bind (m := checkCount "sorted" 1 1 _) (wpAny_pure ?_)
  refine wpAny_bind (kdu_collect (A := A.in1) (kdl_dict (knd := intKind g.prog g.w) (kvs := kvs) (ep := ep) hsm) ok.hd hat (by rw [hlen, sizeLine_eq]; omega) fun h' tk acc hk' hacc => ?_)
  have hl : acc.toList.length = kvs.length := by rw [Array.length_toList]; exact hacc.1
  refine wpAny_bind (wpAny_newList ?_ (by rw [hl, hlen, sizeLine_eq]; omega))
  have hI : IntsAre acc.toList (es.map (·.1)) := ints_of_keys (prog := g.prog) (w := g.w) (by rw [hl, hlen, List.length_map]) fun j v e => by
    obtain ⟨kk, x, hx', his⟩ := hacc.2 j v (by rw [← Array.getElem?_toList]; exact e)
    obtain ⟨b, hb, hr⟩ := F2.get rk hx'
    exact ⟨b.1, by rw [List.getElem?_map, hb]; rfl, by rw [← hr.1]; exact his⟩
  have ho : (h'.push { cls := .type "list", data := .seq acc.toList.toArray }).get? h'.objs.size = some (seqObj "list" acc.toList.toArray 0) := Heap.get?_push_size _ rfl
  have hlt : h'.objs.size < (h'.push { cls := .type "list", data := .seq acc.toList.toArray }).objs.size := by rw [size_push']; exact Nat.lt_succ_self _
  refine wpAny_bind (wpAny_holding (wpAny_call_entry slot_list_sort ⟨_, ho, rfl⟩ entry_list_sort (list_sort_tree ho hI (by rw [hl, hlen]; exact h64) fun out ns' a1 a2 a3 => ⟨_, rfl, ?_⟩) (args_list_sort _)))
  refine wpAny_pure ⟨_, rfl, ?_⟩
  have keep2 : ∀ b o, s1.heap.get? b = some o → (sortedHeap (h'.push { cls := .type "list", data := .seq acc.toList.toArray }) h'.objs.size acc.toList out).get? b = some o := fun b o e => by
    have e1 := hk' b o e
    have hb : b < h'.objs.size := Heap.lt_size e1
    rw [sortedHeap_old (Nat.ne_of_lt hb) (Nat.lt_trans hb hlt)]
    exact Heap.get?_push_of_some _ e1
  have hfr : s1.heap.get? h'.objs.size = none := by
    cases e : s1.heap.get? h'.objs.size with
    | none => rfl
    | some o => exact absurd (Heap.lt_size (hk' _ _ e)) (Nat.lt_irrefl _)
  have x2 := fun (tk : Nat) => (Ext.grow (s' := { s1 with heap := sortedHeap (h'.push { cls := .type "list", data := .seq acc.toList.toArray }) h'.objs.size acc.toList out, toks := tk }) x1.zin x1.clk keep2 : Ext g Z1 Z1 s1 _ c')
  have hzn : Z1 h'.objs.size = none := by
    cases e : Z1 h'.objs.size with
    | none => rfl
    | some o => have := x1.zin _ _ e; rw [hfr] at this; cases this
  obtain ⟨e2, hat2⟩ := sortedHeap_at (out := out) ho
  refine ⟨Z1, _, rfl, (x1.trans (x2 0)).to, x1.back hfr, hzn, out.toList, ⟨e2, hat2⟩, ?_⟩
  have := hns ns' a2 a3
  subst this
  exact ints_rep a1

/-! a call of the text's own def -/
noncomputable def FSpec (g : Cx) (k : Nat) (fa : Addr) (ds : List D) (c : Int) (d : D) (c' : Int) : Prop :=
  ∀ A E Z s vs, OkA k A → Z.In s.heap → (∀ b o, g.h₀.get? b = some o → Z b = some o) → Clk g Z s.heap c → Z g.κ = none → RepL g Z vs ds →
    wpAny g.M A (call (.ref fa) vs) (fun v s' => ∃ Z', Ext g Z Z' s s' c' ∧ g.Rep Z' v d) E s

/-- the text's def x stands at fa -/
structure FnAt (g : Cx) (mg : Str → Option Value) (x : Str) (fa : Addr) (fd : FuncData) : Prop where
  glob : mg x = some (.ref fa)
  there : ∃ o, g.h₀.get? fa = some o ∧ o.data = .func fd
  code : g.h₀.CodeRec fd.code fd.qualname
  clo : fd.closure = []
  gl : fd.globals = mainGlobals
  bl : fd.builtins = builtinsNs

theorem WE.call (G : Gd g mg mb) {x : Str} {fa : Addr} {fd : FuncData} (F : FnAt g mg x fa fd) (hx : env.kindOf x = some .globalImplicit) {e : Expr} {es : List Expr} {ds : List D} (ha : WEs g k env ρ c (e :: es) ds c1) {kf : Nat} (hf : FSpec g kf fa ds c1 d c2) (hk : kf ≤ k)
    (hst : starEach (e :: es) env = (false, eval e env) :: starEach es env := by rfl) (hd : (x == ("__debug__" : Str)) = false := by decide) : WE g k env ρ c (.Call (.Name x p1) (e :: es) [] p2) d c2 := .mk fun A E B Z ad s ok sim => by
  obtain ⟨o, ho, hdat⟩ := F.there
  refine wpAny_Call_NameR (evalGlob G sim rfl hx F.glob ?_ hd)
  refine callWith_def (o := o) (fd := fd) hdat (wpAny_mono (ha.go A E B Z ad s p2 ok sim) (fun vs s1 ⟨Z1, x1, r1⟩ => ?_) fun _ _ e => e) hst
  have sim1 := sim.ext x1
  exact ⟨sim1.ground _ _ ho, wpAny_mono (hf A E Z1 s1 vs (ok.le hk) x1.zin sim1.z0 x1.clk sim1.kap.1 r1) (fun v s2 ⟨Z2, x2, r2⟩ => ⟨Z2, x1.trans x2, r2⟩) fun _ _ e => e⟩
end Mine
end

section
open PySem PySem.W PyProof.Rows
set_option linter.unusedVariables false
set_option maxRecDepth 100000
namespace Mine
variable {g : Cx} {k : Nat} {env : Env} {B Z Z' Z'' : Zm} {ad : Str → Addr} {ρ : Rho} {c c' c'' c1 c2 c3 : Int} {h h' h'' : Heap} {e l r : Expr} {d d1 d2 : D} {p p1 p2 : Pos} {mg mb : Str → Option Value}

section
variable {prog : Program} {w : World} {A : Around} {E : Value → Shared → Prop} {s : Shared}

theorem adjust_upto (b n : Nat) : Builtin.Slice.sliceAdjust none (some (b : Int)) 1 (n : Int) = (0, ((min b n : Nat) : Int)) := by
  unfold Builtin.Slice.sliceAdjust
  have h1 : ¬ ((1 : Int) < 0) := by omega
  have h2 : ¬ ((b : Int) < 0) := by omega
  simp only [h1, h2, if_false]
  congr 1
  omega
theorem places_upto (m : Nat) : Builtin.Slice.slicePlaces 0 (m : Int) 1 = m := by
  unfold Builtin.Slice.slicePlaces
  have h1 : (1 : Int) > 0 := by omega
  simp only [h1, if_true, Int.ediv_one]
  split <;> omega
theorem sliceApplied_upto {sl : Addr} {b n : Nat} {u : Tok} {Q : Int × Int × Nat → Shared → Prop} (hs : s.heap.IsSliceOf sl .none (.int b u) .none) (h : Q (0, 1, min b n) s) :
    wpAny (model prog w) A (Builtin.Slice.sliceApplied (.ref sl) (pure (n : Int))) Q E s := by
  obtain ⟨os, hos, hcs, hds⟩ := id hs
  unfold Builtin.Slice.sliceApplied Builtin.Slice.sliceFields
  refine wpAny_bind (wpAny_bind (wpAny_field hos hds (x := .none) rfl (wpAny_bind (wpAny_field hos hds (x := .int b u) rfl (wpAny_bind (wpAny_field hos hds (x := .none) rfl (wpAny_pure ?_)))))))
  refine wpAny_bind (slicePart_none ?_)
  show wpAny _ _ (if ((1 : Int) == 0) = true then _ else _) _ _ s
  rw [if_neg (by decide)]
  refine wpAny_bind (slicePart_none (wpAny_bind (slicePart_int (wpAny_bind (wpAny_pure ?_)))))
  show wpAny _ _ (match Builtin.Slice.sliceAdjust none (some (b : Int)) 1 (n : Int) with | (lo, hi) => pure (lo, (1 : Int), Builtin.Slice.slicePlaces lo hi 1)) _ _ s
  rw [adjust_upto b n]
  show wpAny _ _ (pure ((0 : Int), (1 : Int), Builtin.Slice.slicePlaces 0 ((min b n : Nat) : Int) 1)) _ _ s
  rw [places_upto]
  exact wpAny_pure h
theorem pick_upto (xs : Array Value) (m : Nat) : ((List.range m).filterMap fun (k : Nat) => xs[((0 : Int) + (k : Int) * 1).toNat]?).toArray = (xs.toList.take m).toArray := by
  have e : (fun (k : Nat) => xs[((0 : Int) + (k : Int) * 1).toNat]?) = fun k => xs[0 + k]? := by
    funext k
    have : ((0 : Int) + (k : Int) * 1).toNat = 0 + k := by omega
    rw [this]
  rw [e]
  have := pick_run xs 0 m
  rw [List.filterMap_map] at this
  have e2 : ((fun x => xs[x]?) ∘ fun x => 0 + x) = fun k => xs[0 + k]? := rfl
  rw [e2] at this
  rw [this, List.drop_zero]
theorem getItem_tuple_upto {t sl : Addr} {items : Array Value} {b : Nat} {u : Tok} {Q : Value → Shared → Prop} (ht : IsTup s.heap t items) (hs : s.heap.IsSliceOf sl .none (.int b u) .none)
    (h0 : items.size ≤ b → Q (.ref t) s)
    (h : b < items.size → Q (.ref s.heap.objs.size) { s with heap := s.heap.push { cls := .type "tuple", data := .seq (items.toList.take b).toArray } })
    (hsz : items.size ≤ sizeLine) : wpAny (model prog w) A (getItem (.ref t) (.ref sl)) Q E s := by
  obtain ⟨os, hos, hcs, hds⟩ := id hs
  have hTs : s.TypeIs (.ref sl) "slice" := ⟨os, hos, hcs⟩
  unfold getItem
  try with_reducible refine wpAny_holding ?_
  first | refine wpAny_bind (wpAny_pure ?_) | skip
  refine wpAny_bind (wpAny_sequenceKey ht.typeIs (by decide) ?_)
  refine wpAny_bind (wpAny_callSpecial?_slot (name := Str.ofString "__getitem__") ht.typeIs slot_tuple_getitem
    (wpAny_call_entry slot_tuple_getitem ht.typeIs entry_tuple_getitem ?_ (args_tuple_getitem _ _)))
  show wpAny _ _ (Builtin.Tuple.tupleItemsOf (.ref t) >>= _) _ _ s
  refine wpAny_bind (tupleItemsOf_ ht ?_)
  refine wpAny_bind (wpAny_typeOf hTs ?_)
  rw [if_pos (by decide)]
  refine wpAny_bind (sliceApplied_upto hs ?_)
  show wpAny _ _ (if ((0 : Int) == 0 && (1 : Int) == 1 && (min b items.size) == items.size) = true then _ else _) _ _ s
  by_cases hb : items.size ≤ b
  · have e : min b items.size = items.size := Nat.min_eq_right hb
    rw [if_pos (by rw [e]; simp)]
    unfold Builtin.Tuple.tupleIsExact
    refine wpAny_bind (wpAny_bind (wpAny_typeOf ht.typeIs (wpAny_pure ?_)))
    rw [if_pos (by rfl)]
    exact wpAny_bind (wpAny_rule (wpAny_pure ⟨_, rfl, wpAny_pure (h0 hb)⟩))
  · have hlt : b < items.size := Nat.lt_of_not_le hb
    have e : min b items.size = b := Nat.min_eq_left (Nat.le_of_lt hlt)
    have hno : ¬ (((0 : Int) == 0 && (1 : Int) == 1 && (min b items.size) == items.size) = true) := by
      rw [e]
      have : (b == items.size) = false := beq_eq_false_iff_ne.mpr (Nat.ne_of_lt hlt)
      rw [this]; simp
    rw [if_neg hno, e, pick_upto items b]
    have hdrop : sizeOk (.seq (items.toList.take b).toArray) := by
      show (items.toList.take b).toArray.size ≤ sizeLine
      rw [List.size_toArray, List.length_take, Array.length_toList]
      omega
    first
      | exact wpAny_bind (m := Builtin.Tuple.tupleExact _) (wpAny_newObj_type (wpAny_pure ⟨_, rfl, wpAny_pure (h hlt)⟩) hdrop)
      | exact wpAny_bind (m := Builtin.Tuple.tupleExact _) (wpAny_newObj_type (wpAny_bind (wpAny_pure (wpAny_pure ⟨_, rfl, wpAny_pure (h hlt)⟩))) hdrop)
end

theorem getitem_types {a : Addr} {s : Shared} : (∀ {vs : List Value}, PList s.heap a vs → s.TypeIs (.ref a) "list") ∧ (∀ {vs : List Value}, PTup s.heap a vs → s.TypeIs (.ref a) "tuple") :=
  ⟨fun ⟨n, e⟩ => ⟨_, e, rfl⟩, fun ⟨n, e⟩ => ⟨_, e, rfl⟩⟩

/-- t[:b] of a tuple -/
theorem WE.tupTo {v up : Expr} {ds : List D} {b : Nat} (hv : WE g k env ρ c v (.tup ds) c1) (hi : WE g k env ρ c1 up (.int b) c2) (hsz : ds.length ≤ sizeLine) : WE g k env ρ c (.Subscript v (.Slice Option.none (some up) Option.none p1) p) (.tup (ds.take b)) c2 := .mk fun A E B Z ad s ok sim =>
  Subscript_ (wpAny_mono (hv.go A E B Z ad s ok sim) (fun v1 s1 ⟨Z1, x1, r1⟩ => by
    refine wpAny_Slice ?_
    rw [evalPart_none, evalPart_some]
    refine wpAny_pure (wpAny_mono (hi.go A E B Z1 ad s1 ok (sim.ext x1)) (fun v2 s2 ⟨Z2, x2, r2⟩ => ?_) fun _ _ e => e)
    obtain ⟨u, rfl⟩ := rep_int r2
    refine wpAny_pure ?_
    have r1' := Rep.mono r1 x2.le
    obtain ⟨a, rfl, ⟨vs, pt, rl⟩, _⟩ := r1'.own x2.zin
    have x3 := Ext.push (s := s2) x2.zin x2.clk ({ cls := .type "slice", data := .fields #[.none, .int b u, .none] } : Obj)
    have pt3 := pt.at fun o e => Heap.get?_push_of_some ({ cls := .type "slice", data := .fields #[.none, .int b u, .none] } : Obj) e
    obtain ⟨n, pt3'⟩ := id pt3
    obtain ⟨ops, ho⟩ := subs_any (.Slice Option.none (some up) Option.none p1) (.ref a) (.ref s2.heap.objs.size)
    refine tail_any (T := "tuple") ⟨_, pt3', rfl⟩ slot_tuple_getitem.lookup (getItem_tuple_upto (s := { s2 with heap := s2.heap.push _ }) ⟨_, pt3', rfl, n, rfl⟩ (Heap.IsSliceOf.new ..) (fun hle => ?_) (fun hlt => ?_) (by simp only [List.size_toArray, rl.length]; exact hsz)) ho
    · have hb : ds.length ≤ b := by rw [← rl.length]; simpa using hle
      rw [List.take_of_length_le hb]
      exact ⟨Z2, (x1.trans x2).trans x3, r1'⟩
    · have ho2 : ((s2.heap.push { cls := .type "slice", data := .fields #[.none, .int b u, .none] }).push { cls := .type "tuple", data := .seq (vs.toArray.toList.take b).toArray }).get? (s2.heap.push { cls := .type "slice", data := .fields #[.none, .int b u, .none] }).objs.size = some { cls := .type "tuple", data := .seq (vs.toArray.toList.take b).toArray } := Heap.get?_push_size _ rfl
      exact ⟨Z2.add _ _, ((x1.trans x2).trans x3).trans ((Ext.pushT x3.zin x3.clk).freeze ho2 x3.zin.fresh (fresh_none _)), Own.freeze (d := .tup (ds.take b)) ⟨vs.take b, ⟨0, by simpa using ho2⟩, (RepL.mono rl (Zm.Le.refl _)).take b⟩ ho2 x3.zin.fresh⟩) fun _ _ e => e)
/-- t[a:] of a tuple -/
theorem WE.tupFrom {v lo : Expr} {ds : List D} {b : Nat} (hv : WE g k env ρ c v (.tup ds) c1) (hi : WE g k env ρ c1 lo (.int b) c2) (h1 : 1 ≤ b) (hb : b ≤ ds.length) (hsz : ds.length ≤ sizeLine) : WE g k env ρ c (.Subscript v (.Slice (some lo) Option.none Option.none p1) p) (.tup (ds.drop b)) c2 := .mk fun A E B Z ad s ok sim =>
  Subscript_ (wpAny_mono (hv.go A E B Z ad s ok sim) (fun v1 s1 ⟨Z1, x1, r1⟩ => by
    refine wpAny_Slice ?_
    rw [evalPart_some, evalPart_none]
    refine (wpAny_mono (hi.go A E B Z1 ad s1 ok (sim.ext x1)) (fun v2 s2 ⟨Z2, x2, r2⟩ => ?_) fun _ _ e => e)
    obtain ⟨u, rfl⟩ := rep_int r2
    refine wpAny_pure (wpAny_pure ?_)
    have r1' := Rep.mono r1 x2.le
    obtain ⟨a, rfl, ⟨vs, pt, rl⟩, _⟩ := r1'.own x2.zin
    have x3 := Ext.push (s := s2) x2.zin x2.clk ({ cls := .type "slice", data := .fields #[.int b u, .none, .none] } : Obj)
    have pt3 := pt.at fun o e => Heap.get?_push_of_some ({ cls := .type "slice", data := .fields #[.int b u, .none, .none] } : Obj) e
    obtain ⟨n, pt3'⟩ := id pt3
    obtain ⟨ops, ho⟩ := subs_any (.Slice (some lo) Option.none Option.none p1) (.ref a) (.ref s2.heap.objs.size)
    refine tail_any (T := "tuple") ⟨_, pt3', rfl⟩ slot_tuple_getitem.lookup (getItem_tuple_from (s := { s2 with heap := s2.heap.push _ }) ⟨_, pt3', rfl, n, rfl⟩ (Heap.IsSliceOf.new ..) h1 (by simp only [List.size_toArray, rl.length]; exact hb) ?_ (by simp only [List.size_toArray, rl.length]; exact hsz)) ho
    have ho2 : ((s2.heap.push { cls := .type "slice", data := .fields #[.int b u, .none, .none] }).push { cls := .type "tuple", data := .seq (vs.toArray.toList.drop b).toArray }).get? (s2.heap.push { cls := .type "slice", data := .fields #[.int b u, .none, .none] }).objs.size = some { cls := .type "tuple", data := .seq (vs.toArray.toList.drop b).toArray } := Heap.get?_push_size _ rfl
    exact ⟨Z2.add _ _, ((x1.trans x2).trans x3).trans ((Ext.pushT x3.zin x3.clk).freeze ho2 x3.zin.fresh (fresh_none _)), Own.freeze (d := .tup (ds.drop b)) ⟨vs.drop b, ⟨0, by simpa using ho2⟩, (RepL.mono rl (Zm.Le.refl _)).drop b⟩ ho2 x3.zin.fresh⟩) fun _ _ e => e)
/-- l[a:] of a list -/
theorem WO.listFrom {v lo : Expr} {ds : List D} {b : Nat} (hv : WC g k env ρ c v (.list ds) c1) (hi : WE g k env ρ c1 lo (.int b) c2) (hsz : ds.length ≤ sizeLine) : WO g k env ρ c (.Subscript v (.Slice (some lo) Option.none Option.none p1) p) (.list (ds.drop b)) c2 := .mk fun A E B Z ad s ok sim =>
  Subscript_ (wpAny_mono (hv.go A E B Z ad s ok sim) (fun v1 s1 ⟨Z1, a, ha, hk, x1, ow⟩ => by
    subst ha
    refine wpAny_Slice ?_
    rw [evalPart_some, evalPart_none]
    refine (wpAny_mono (hi.go A E B Z1 ad s1 ok (sim.ext x1)) (fun v2 s2 ⟨Z2, x2, r2⟩ => ?_) fun _ _ e => e)
    obtain ⟨u, rfl⟩ := rep_int r2
    refine wpAny_pure (wpAny_pure ?_)
    obtain ⟨vs, pt, rl⟩ := Own.frame ow (x2.keeps hk) x2.le (x2.zin.le x2.le)
    have x3 := Ext.push (s := s2) x2.zin x2.clk ({ cls := .type "slice", data := .fields #[.int b u, .none, .none] } : Obj)
    have pt3 := pt.at fun o e => Heap.get?_push_of_some ({ cls := .type "slice", data := .fields #[.int b u, .none, .none] } : Obj) e
    obtain ⟨n, pt3'⟩ := id pt3
    obtain ⟨ops, ho⟩ := subs_any (.Slice (some lo) Option.none Option.none p1) (.ref a) (.ref s2.heap.objs.size)
    refine tail_any (T := "list") ⟨_, pt3', rfl⟩ slot_list_getitem.lookup (wpAny_getItem_list_slice (s := { s2 with heap := s2.heap.push _ }) (lo := some (b : Int)) (hi := Option.none) (st := Option.none) pt3.isList (Heap.IsSliceOf.new ..) (.int _ _) .none .none (by simp) ?_ (by simp only [List.size_toArray, rl.length]; exact hsz)) ho
    rw [slicePick_from']
    have ho2 : ((s2.heap.push { cls := .type "slice", data := .fields #[.int b u, .none, .none] }).push { cls := .type "list", data := .seq (vs.toArray.toList.drop b).toArray }).get? (s2.heap.push { cls := .type "slice", data := .fields #[.int b u, .none, .none] }).objs.size = some { cls := .type "list", data := .seq (vs.toArray.toList.drop b).toArray } := Heap.get?_push_size _ rfl
    exact ⟨Z2, _, rfl, ((x1.trans x2).trans x3).trans (Ext.pushT x3.zin x3.clk), ((x1.trans x2).trans x3).back (fresh_none _), x3.zin.fresh, vs.drop b, ⟨0, by simpa using ho2⟩, rl.drop b⟩) fun _ _ e => e)
end Mine
end

section
open PySem PySem.W PyProof.Rows
set_option linter.unusedVariables false
set_option maxRecDepth 100000
namespace Mine
variable {g : Cx} {k : Nat} {env : Env} {B Z Z' Z'' : Zm} {ad : Str → Addr} {ρ : Rho} {c c' c'' c1 c2 c3 : Int} {h h' h'' : Heap} {e l r : Expr} {d d1 d2 : D} {p p1 p2 p3 : Pos} {mg mb : Str → Option Value}

/-! statements -/
inductive Fl where
  | next | brk | cont
  | ret (d : D)
noncomputable def FlRep (g : Cx) (Z : Zm) : Flow → Fl → Prop
  | .next, .next => True
  | .brk, .brk => True
  | .cont, .cont => True
  | .ret v, .ret d => g.Rep Z v d
  | _, _ => False
structure ZStep (B Z Z' : Zm) (s s' : Shared) : Prop where
  le : Z.Le Z'
  new : ∀ a, Z a = none → B a ≠ none → Z' a = none
  os : s'.os = s.os
  gs : s'.gens = s.gens
section
variable {s s' s1 s2 : Shared}
theorem ZStep.refl (os : s'.os = s.os := by rfl) (gs : s'.gens = s.gens := by rfl) : ZStep B Z Z s s' := ⟨.refl Z, fun _ h _ => h, os, gs⟩
theorem ZStep.trans (x : ZStep B Z Z' s s1) (y : ZStep B Z' Z'' s1 s2) : ZStep B Z Z'' s s2 := ⟨x.le.trans y.le, fun a h hb => y.new a (x.new a h hb) hb, y.os.trans x.os, y.gs.trans x.gs⟩
theorem ZStep.to (x : ZStep B Z Z' s s1) (os : s2.os = s1.os := by rfl) (gs : s2.gens = s1.gens := by rfl) : ZStep B Z Z' s s2 := ⟨x.le, x.new, os.trans x.os, gs.trans x.gs⟩
theorem ZStep.ext (x : Ext g Z Z' s s1 c) (hb : B.In s.heap) (os : s'.os = s1.os := by rfl) (gs : s'.gens = s1.gens := by rfl) : ZStep B Z Z' s s' := ⟨x.le, fun a ha hn => by
  cases e : B a with
  | none => exact absurd e hn
  | some o => exact x.new a ha ⟨o, hb a o e⟩, os.trans x.os, gs.trans x.gs⟩
end

/-- a statement's or a block's end -/
noncomputable def Post (g : Cx) (env : Env) (B Z : Zm) (K : Fl → Rho → Int → Prop) (s : Shared) (f : Flow) (s' : Shared) : Prop :=
  ∃ Z' ad' ρ' c' fl, ZStep B Z Z' s s' ∧ SimA g env B Z' ad' ρ' c' s'.heap ∧ FlRep g Z' f fl ∧ K fl ρ' c'
theorem Post.step {K : Fl → Rho → Int → Prop} {f : Flow} {s s1 s' : Shared} (z : ZStep B Z Z' s s1) (x : Post g env B Z' K s1 f s') : Post g env B Z K s f s' :=
  let ⟨Z2, ad', ρ', c', fl, z2, r⟩ := x; ⟨Z2, ad', ρ', c', fl, z.trans z2, r⟩
theorem Post.mono {K K' : Fl → Rho → Int → Prop} {f : Flow} {s s' : Shared} (x : Post g env B Z K s f s') (h : ∀ fl ρ c, K fl ρ c → K' fl ρ c) : Post g env B Z K' s f s' :=
  let ⟨Z2, ad', ρ', c', fl, z2, a, b, q⟩ := x; ⟨Z2, ad', ρ', c', fl, z2, a, b, h _ _ _ q⟩

structure WS (g : Cx) (k : Nat) (env : Env) (ρ : Rho) (c : Int) (ss : List Stmt) (K : Fl → Rho → Int → Prop) : Prop where
  go : ∀ A E B Z ad s, OkA k A → SimA g env B Z ad ρ c s.heap → wpAny g.M A (execs ss env) (Post g env B Z K s) E s
structure WS1 (g : Cx) (k : Nat) (env : Env) (ρ : Rho) (c : Int) (st : Stmt) (K : Fl → Rho → Int → Prop) : Prop where
  go : ∀ A E B Z ad s, OkA k A → SimA g env B Z ad ρ c s.heap → wpAny g.M A (exec st env) (Post g env B Z K s) E s

variable {K K' : Fl → Rho → Int → Prop} {ss : List Stmt} {st : Stmt}
theorem WS.nil (h : K .next ρ c) : WS g k env ρ c [] K := .mk fun A E B Z ad s ok sim => wpAny_execs_nil ⟨Z, ad, ρ, c, .next, .refl, sim, trivial, h⟩
theorem WS.mono (x : WS g k env ρ c ss K) (h : ∀ fl ρ c, K fl ρ c → K' fl ρ c) : WS g k env ρ c ss K' := .mk fun A E B Z ad s ok sim => wpAny_mono (x.go A E B Z ad s ok sim) (fun _ _ p => p.mono h) fun _ _ e => e
theorem WS1.mono (x : WS1 g k env ρ c st K) (h : ∀ fl ρ c, K fl ρ c → K' fl ρ c) : WS1 g k env ρ c st K' := .mk fun A E B Z ad s ok sim => wpAny_mono (x.go A E B Z ad s ok sim) (fun _ _ p => p.mono h) fun _ _ e => e
theorem WS.cons (x : WS1 g k env ρ c st (fun fl ρ' c' => match fl with | .next => WS g k env ρ' c' ss K | fl => K fl ρ' c')) : WS g k env ρ c (st :: ss) K := .mk fun A E B Z ad s ok sim =>
  wpAny_execs_cons (wpAny_mono (x.go A E B Z ad s ok sim) (fun f s1 ⟨Z1, ad1, ρ1, c1, fl, z1, sim1, hf, hk⟩ => by
    cases f <;> cases fl <;> first | exact hf.elim | (exact wpAny_mono (hk.go A E B Z1 ad1 s1 ok sim1) (fun f s2 p => p.step z1) fun _ _ e => e) | exact ⟨Z1, ad1, ρ1, c1, _, z1, sim1, hf, hk⟩) fun _ _ e => e)

/-- fewer names are known -/
noncomputable def Sub (ρ ρ' : Rho) : Prop := ∀ x lv, ρ.lookup x = some lv → ρ'.lookup x = some lv
theorem SimA.weaken {ρ' : Rho} (x : SimA g env B Z ad ρ' c h) (q : Sub ρ ρ') : SimA g env B Z ad ρ c h :=
  { x with vars := fun y lv hy => x.vars y lv (q y lv hy), inj := fun y z d e hy hz => x.inj y z d e (q _ _ hy) (q _ _ hz), privO := fun y d hy => x.privO y d (q _ _ hy) }
theorem WS.weaken {ρ' : Rho} (x : WS g k env ρ c ss K) (q : Sub ρ ρ') : WS g k env ρ' c ss K := .mk fun A E B Z ad s ok sim => x.go A E B Z ad s ok (sim.weaken q)
theorem WS1.weaken {ρ' : Rho} (x : WS1 g k env ρ c st K) (q : Sub ρ ρ') : WS1 g k env ρ' c st K := .mk fun A E B Z ad s ok sim => x.go A E B Z ad s ok (sim.weaken q)
noncomputable def SubL (ρ' : Rho) : Rho → Prop
  | [] => True
  | (x, lv) :: r => ρ'.lookup x = some lv ∧ SubL ρ' r
theorem Sub.of : ∀ {ρ ρ' : Rho}, SubL ρ' ρ → Sub ρ ρ'
  | [], _, _ => fun x lv h => by simp at h
  | (y, m) :: r, ρ', h => fun x lv hx => by
    rw [List.lookup_cons] at hx
    by_cases hb : (x == y) = true
    · rw [hb] at hx
      cases hx
      rw [eq_of_beq hb]; exact h.1
    · have hb' : (x == y) = false := by simpa using hb
      rw [hb'] at hx
      exact Sub.of h.2 x lv hx

/-- own containers may be frozen -/
theorem SimA.freeze {x : Str} (sim : SimA g env B Z ad ρ c h) (hx : ρ.lookup x = some (.o d)) : ∃ Z', (∀ s, ZStep B Z Z' s s) ∧ SimA g env B Z' ad ((x, .f d) :: ρ) c h := by
  obtain ⟨v, hl, rfl, ow⟩ := sim.vars x _ hx
  obtain ⟨o, ho⟩ := Own.there ow
  have pr := sim.privO x d hx
  have le := Zm.le_add (Z := Z) o pr.1
  refine ⟨Z.add (ad x) o, fun s => ⟨le, fun a ha hb => ?_, rfl, rfl⟩, ?_⟩
  · by_cases hax : a = ad x
    · subst hax; exact absurd pr.2.1 hb
    · rw [Zm.add_other Z o hax]; exact ha
  · have look : ∀ y lv, ((x, LV.f d) :: ρ).lookup y = some lv → (y = x ∧ lv = .f d) ∨ (y ≠ x ∧ ρ.lookup y = some lv) := fun y lv hy => by
      rw [List.lookup_cons] at hy
      by_cases hb : (y == x) = true
      · rw [hb] at hy; cases hy; exact .inl ⟨eq_of_beq hb, rfl⟩
      · have hb' : (y == x) = false := by simpa using hb
        rw [hb'] at hy; exact .inr ⟨fun e => by subst e; simp at hb, hy⟩
    have ne : ∀ {a : Addr}, a ≠ ad x → (Z.add (ad x) o) a = Z a := fun h => Zm.add_other Z o h
    refine { sim with
      zin := sim.zin.add ho
      z0 := fun b o e => le b o (sim.z0 b o e)
      vars := fun y lv hy => ?_
      inj := fun y z d1 d2 hy hz => ?_
      privL := ⟨(ne (Ne.symm pr.2.2.2.1)).trans sim.privL.1, sim.privL.2⟩
      privC := fun n cc hc => ⟨(ne (Ne.symm (pr.2.2.2.2 n cc hc))).trans (sim.privC n cc hc).1, (sim.privC n cc hc).2⟩
      privO := fun y d1 hy => ?_
      clk := sim.clk.mono le fun _ e => e
      kap := ⟨(ne (Ne.symm pr.2.2.1)).trans sim.kap.1, sim.kap.2⟩ }
    · rcases look y lv hy with ⟨rfl, rfl⟩ | ⟨hne, hy⟩
      · exact ⟨_, hl, Own.freeze ow ho pr.1⟩
      · obtain ⟨v, hl', hr⟩ := sim.vars y lv hy
        refine ⟨v, hl', ?_⟩
        cases lv with
        | f d1 => exact Rep.mono hr le
        | o d1 => exact ⟨hr.1, Own.frame hr.2 (fun _ e => e) le sim.zin⟩
    · rcases look y _ hy with ⟨_, hf⟩ | ⟨_, hy⟩
      · cases hf
      · rcases look z _ hz with ⟨_, hf⟩ | ⟨_, hz⟩
        · cases hf
        · exact sim.inj y z d1 d2 hy hz
    · rcases look y _ hy with ⟨_, hf⟩ | ⟨hne, hy⟩
      · cases hf
      · have q := sim.privO y d1 hy
        exact ⟨(ne fun e => hne (sim.inj y x d1 d hy hx e)).trans q.1, q.2⟩
theorem WS.freeze {x : Str} (hx : ρ.lookup x = some (.o d)) (w : WS g k env ((x, .f d) :: ρ) c ss K) : WS g k env ρ c ss K := .mk fun A E B Z ad s ok sim => by
  obtain ⟨Z1, z1, sim1⟩ := sim.freeze hx
  exact wpAny_mono (w.go A E B Z1 ad s ok sim1) (fun f s2 p => p.step (z1 _)) fun _ _ e => e

/-! stores of names -/
noncomputable def Sto (env : Env) (x : Str) : Prop := env.kindOf x = some .local ∨ (env.kindOf x = some .cell ∧ (env.cells.lookup x).isSome = true)
structure Stored (env : Env) (x : Str) (v : Value) (q : Addr) (h h' : Heap) : Prop where
  here : q = env.locals ∨ ∃ n, env.cells.lookup n = some q
  same : Heap.SameBut q h h'
  look : Look env h' x v
  other : ∀ y u, y ≠ x → Look env h y u → Look env h' y u
  ns : ∃ m, h'.Ns env.locals m
  cells : ∀ n c, env.cells.lookup n = some c → ∃ v, h'.IsCell c v
theorem wp_store {x : Str} {v : Value} {A : Around} {E : Value → Shared → Prop} {s : Shared} {Q : Unit → Shared → Prop} (sim : SimA g env B Z ad ρ c s.heap) (hst : Sto env x)
    (hq : ∀ q h' tk, Stored env x v q s.heap h' → Q () { s with heap := h', toks := tk }) : wpAny g.M A (storeName env x v) Q E s := by
  have hp : (env.scope.kind == .class || (env.scope.kind == .module && env.locals != env.globals)) = false := by rw [sim.fn]; rfl
  obtain ⟨m, hn⟩ := sim.ns
  rcases hst with hk | ⟨hk, hcs⟩
  · refine wpAny_storeName_local hk hn (fun h' hn' hs => hq env.locals h' _ ⟨.inl rfl, hs, .inl ⟨hk, _, hn', if_pos rfl⟩, fun y u hy hl => ?_, ⟨_, hn'⟩, fun n cc hc => ?_⟩) hp
    · rcases hl with ⟨hky, m', hn2, hm⟩ | ⟨hky, cc, hc, o, ho, hd⟩
      · have e : m = m' := by
          obtain ⟨o1, es1, ep1, ho1, hd1, _, q1⟩ := hn
          obtain ⟨o2, es2, ep2, ho2, hd2, _, q2⟩ := hn2
          rw [ho1] at ho2; cases ho2
          rw [hd1] at hd2; cases hd2
          funext z; rw [← q1, ← q2]
        subst e
        exact .inl ⟨hky, _, hn', by rw [if_neg hy]; exact hm⟩
      · exact .inr ⟨hky, cc, hc, o, (hs.2 cc (sim.apartL _ _ hc)).trans ho, hd⟩
    · obtain ⟨v', o, ho, hd⟩ := sim.cells n cc hc
      exact ⟨v', o, (hs.2 cc (sim.apartL _ _ hc)).trans ho, hd⟩
  · obtain ⟨q, hc⟩ := Option.isSome_iff_exists.mp hcs
    obtain ⟨v0, hv0⟩ := sim.cells x q hc
    have hqL := sim.apartL _ _ hc
    refine wpAny_storeName_cell sim.fn hk hc hv0 (fun h' hv hs => hq q h' s.toks ⟨.inr ⟨x, hc⟩, hs, .inr ⟨.inl hk, q, hc, hv⟩, fun y u hy hl => ?_, ⟨m, hn.sameBut hs (Ne.symm hqL)⟩, fun n cc hcc => ?_⟩)
    · rcases hl with ⟨hky, m', hn2, hm⟩ | ⟨hky, cc, hcc, o, ho, hd⟩
      · exact .inl ⟨hky, m', hn2.sameBut hs (Ne.symm hqL), hm⟩
      · exact .inr ⟨hky, cc, hcc, o, (hs.2 cc fun e => hy (by subst e; exact sim.apartC _ _ _ hcc hc)).trans ho, hd⟩
    · by_cases hcq : cc = q
      · subst hcq; exact ⟨_, hv⟩
      · obtain ⟨v', o, ho, hd⟩ := sim.cells n cc hcc
        exact ⟨v', o, (hs.2 cc hcq).trans ho, hd⟩

theorem lookup_put {x y : Str} {lv lv' : LV} (hy : ((x, lv) :: ρ).lookup y = some lv') : (y = x ∧ lv' = lv) ∨ (y ≠ x ∧ ρ.lookup y = some lv') := by
  rw [List.lookup_cons] at hy
  by_cases hb : (y == x) = true
  · rw [hb] at hy; cases hy; exact .inl ⟨eq_of_beq hb, rfl⟩
  · have hb' : (y == x) = false := by simpa using hb
    rw [hb'] at hy; exact .inr ⟨fun e => by subst e; simp at hb, hy⟩

theorem SimA.stored {x : Str} {v : Value} {q : Addr} {lv : LV} {ad' : Str → Addr} (sim : SimA g env B Z ad ρ c h) (S : Stored env x v q h h') (ha : ∀ y, y ≠ x → ad' y = ad y)
    (hr : ∀ i : Z.In h', LRep g h' Z (ad' x) v lv) (hp : ∀ d, lv = .o d → Z (ad' x) = none ∧ B (ad' x) = none ∧ ad' x ≠ g.κ ∧ ad' x ≠ env.locals ∧ (∀ n c, env.cells.lookup n = some c → ad' x ≠ c) ∧ ∀ y d', y ≠ x → ρ.lookup y = some (.o d') → ad' x ≠ ad y) :
    SimA g env B Z ad' ((x, lv) :: ρ) c h' := by
  have pq : Z q = none ∧ B q = none ∧ q ≠ g.κ := by
    rcases S.here with rfl | ⟨n, hn⟩
    · exact sim.privL
    · exact sim.privC n q hn
  have zi : Z.In h' := fun a o e => (S.same.2 a fun e' => by subst e'; rw [pq.1] at e; cases e).trans (sim.zin a o e)
  have own : ∀ y d', y ≠ x → ρ.lookup y = some (.o d') → ad y ≠ q := fun y d' hy hl e => by
    have := sim.privO y d' hl
    rcases S.here with rfl | ⟨n, hn⟩
    · exact this.2.2.2.1 e
    · exact this.2.2.2.2 n q hn e
  refine { sim with
    zin := zi
    bin := fun a o e => (S.same.2 a fun e' => by subst e'; rw [pq.2.1] at e; cases e).trans (sim.bin a o e)
    ns := S.ns
    cells := S.cells
    vars := fun y lv' hy => ?_
    inj := fun y z d1 d2 hy hz e => ?_
    privO := fun y d1 hy => ?_
    clk := sim.clk.mono (.refl Z) fun o e => (S.same.2 _ (Ne.symm pq.2.2)).trans e }
  · rcases lookup_put hy with ⟨rfl, rfl⟩ | ⟨hne, hy⟩
    · exact ⟨v, S.look, hr zi⟩
    · obtain ⟨u, hl, hru⟩ := sim.vars y lv' hy
      refine ⟨u, S.other y u hne hl, ?_⟩
      cases lv' with
      | f d1 => exact hru
      | o d1 => rw [ha y hne]; exact ⟨hru.1, Own.frame hru.2 (fun o e => (S.same.2 _ (own y d1 hne hy)).trans e) (.refl Z) zi⟩
  · rcases lookup_put hy with ⟨e1, hl⟩ | ⟨hne, hy'⟩
    · rcases lookup_put hz with ⟨e2, _⟩ | ⟨hnz, hz'⟩
      · rw [e1, e2]
      · rw [e1] at e; exact absurd (e.trans (ha z hnz)) ((hp d1 hl.symm).2.2.2.2.2 z d2 hnz hz')
    · rcases lookup_put hz with ⟨e2, hl⟩ | ⟨hnz, hz'⟩
      · rw [e2] at e; exact absurd (e.symm.trans (ha y hne)) ((hp d2 hl.symm).2.2.2.2.2 y d1 hne hy')
      · rw [ha y hne, ha z hnz] at e
        exact sim.inj y z d1 d2 hy' hz' e
  · rcases lookup_put hy with ⟨rfl, hl⟩ | ⟨hne, hy⟩
    · have := hp d1 hl.symm
      exact ⟨this.1, this.2.1, this.2.2.1, this.2.2.2.1, this.2.2.2.2.1⟩
    · rw [ha y hne]; exact sim.privO y d1 hy

theorem SimA.storedF {x : Str} {v : Value} {q : Addr} (sim : SimA g env B Z ad ρ c h) (S : Stored env x v q h h') (hr : g.Rep Z v d) : SimA g env B Z ad ((x, .f d) :: ρ) c h' :=
  sim.stored S (fun _ _ => rfl) (fun _ => hr) fun d h => by cases h
/-- a fresh container goes under a name -/
theorem SimA.storedO {x : Str} {a : Addr} {q : Addr} {hb : Heap} (sim : SimA g env B Z ad ρ c h) (S : Stored env x (.ref a) q h h') (ow : g.Own h Z a d) (hz : Z a = none) (hB : B a = none) (hk : a ≠ g.κ) (hL : a ≠ env.locals) (hC : ∀ n c, env.cells.lookup n = some c → a ≠ c)
    (hO : ∀ y d', y ≠ x → ρ.lookup y = some (.o d') → a ≠ ad y) : SimA g env B Z (fun y => if y = x then a else ad y) ((x, .o d) :: ρ) c h' := by
  refine sim.stored S (fun y hy => if_neg hy) (fun i => ?_) fun d' e => ?_
  · simp only [if_true]
    refine ⟨rfl, Own.frame ow (fun o e => (S.same.2 a fun e' => ?_).trans e) (.refl Z) i⟩
    rcases S.here with e'' | ⟨n, hn⟩
    · exact hL (e'.trans e'')
    · exact hC n q hn e'
  · simp only [if_true]
    exact ⟨hz, hB, hk, hL, hC, hO⟩

theorem WS1.assign {x : Str} (hst : Sto env x) (he : WE g k env ρ c e d c') (hk : K .next ((x, .f d) :: ρ) c') (hs : swapsWith e (some (.Name x p1)) p.line env = pure false := by rfl) : WS1 g k env ρ c (.Assign [.Name x p1] e p) K := .mk fun A E B Z ad s ok sim =>
  wpAny_Assign_Name (wpAny_mono (he.go A E B Z ad s ok sim) (fun v s1 ⟨Z1, x1, r1⟩ => wp_store (sim.ext x1) hst fun q h' tk S => ⟨Z1, ad, _, c', .next, .ext x1 sim.bin, (sim.ext x1).storedF S r1, trivial, hk⟩) fun _ _ e => e) hs

theorem fresh_apart {a : Addr} (sim : SimA g env B Z ad ρ c h) (ha : h.get? a = none) : B a = none ∧ a ≠ g.κ ∧ a ≠ env.locals ∧ (∀ n c, env.cells.lookup n = some c → a ≠ c) ∧ ∀ y d', ρ.lookup y = some (.o d') → a ≠ ad y := by
  refine ⟨?_, ?_, ?_, ?_, ?_⟩
  · cases e : B a with
    | none => rfl
    | some o => have := sim.bin a o e; rw [ha] at this; cases this
  · rintro rfl; obtain ⟨o, e⟩ := sim.clk.there; rw [ha] at e; cases e
  · rintro rfl; obtain ⟨m, o, _, _, e, _⟩ := sim.ns; rw [ha] at e; cases e
  · rintro n cc hc rfl; obtain ⟨v, o, e, _⟩ := sim.cells n _ hc; rw [ha] at e; cases e
  · rintro y d' hy rfl
    obtain ⟨v, _, hr⟩ := sim.vars y _ hy
    obtain ⟨o, e⟩ := Own.there hr.2
    rw [ha] at e; cases e

theorem WS1.assignO {x : Str} (hst : Sto env x) (he : WO g k env ρ c e d c') (hk : K .next ((x, .o d) :: ρ) c') (hs : swapsWith e (some (.Name x p1)) p.line env = pure false := by rfl) : WS1 g k env ρ c (.Assign [.Name x p1] e p) K := .mk fun A E B Z ad s ok sim =>
  wpAny_Assign_Name (wpAny_mono (he.go A E B Z ad s ok sim) (fun v s1 ⟨Z1, a, hv, x1, ha, hz, ow⟩ => by
    subst hv
    obtain ⟨f1, f2, f3, f4, f5⟩ := fresh_apart sim ha
    exact wp_store (sim.ext x1) hst fun q h' tk S => ⟨Z1, _, _, c', .next, .ext x1 sim.bin, (sim.ext x1).storedO (hb := s.heap) S ow hz f1 f2 f3 f4 (fun y d' _ hy => f5 y d' hy), trivial, hk⟩) fun _ _ e => e) hs

theorem WS1.ret (he : WE g k env ρ c e d c') (hk : K (.ret d) ρ c') : WS1 g k env ρ c (.Return (some e) p) K := .mk fun A E B Z ad s ok sim =>
  wpAny_Return_some (wpAny_mono (he.go A E B Z ad s ok sim) (fun v s1 ⟨Z1, x1, r1⟩ => ⟨Z1, ad, ρ, c', .ret d, .ext x1 sim.bin, sim.ext x1, r1, hk⟩) fun _ _ e => e)
theorem WS1.cont (hk : K .cont ρ c) : WS1 g k env ρ c (.Continue p) K := .mk fun A E B Z ad s ok sim => wpAny_Continue ⟨Z, ad, ρ, c, .cont, .refl, sim, trivial, hk⟩
theorem WS1.brk (hk : K .brk ρ c) : WS1 g k env ρ c (.Break p) K := .mk fun A E B Z ad s ok sim => wpAny_Break ⟨Z, ad, ρ, c, .brk, .refl, sim, trivial, hk⟩
theorem WS1.ite {t : Expr} {body orelse : List Stmt} {b : Bool} (ht : WT g k env ρ c t b c') (h1 : b = true → WS g k env ρ c' body K) (h2 : b = false → WS g k env ρ c' orelse K) : WS1 g k env ρ c (.If t body orelse p) K := .mk fun A E B Z ad s ok sim =>
  wpAny_If (wpAny_mono (ht.go A E B Z ad s ok sim) (fun r s1 ⟨hr, Z1, x1⟩ => by
    subst hr
    cases r with
    | true => exact wpAny_mono ((h1 rfl).go A E B Z1 ad s1 ok (sim.ext x1)) (fun f s2 p => p.step (.ext x1 sim.bin)) fun _ _ e => e
    | false => exact wpAny_mono ((h2 rfl).go A E B Z1 ad s1 ok (sim.ext x1)) (fun f s2 p => p.step (.ext x1 sim.bin)) fun _ _ e => e) fun _ _ e => e)
end Mine
end

section
open PySem PySem.W PyProof.Rows
set_option linter.unusedVariables false
set_option maxRecDepth 100000
namespace Mine
variable {g : Cx} {k : Nat} {env : Env} {B Z Z' Z'' : Zm} {ad : Str → Addr} {ρ : Rho} {c c' c'' c1 c2 c3 : Int} {h h' h'' : Heap} {e l r : Expr} {d d1 d2 : D} {p p1 p2 p3 p4 p5 : Pos} {mg mb : Str → Option Value}
variable {K K' : Fl → Rho → Int → Prop} {ss : List Stmt} {st : Stmt}

/-- an own container is turned -/
theorem SimA.mut {x : Str} {d' : D} (sim : SimA g env B Z ad ρ c h) (hx : ρ.lookup x = some (.o d)) (hs : Heap.SameBut (ad x) h h') (ow : Z.In h' → g.Own h' Z (ad x) d') : SimA g env B Z ad ((x, .o d') :: ρ) c h' := by
  have pr := sim.privO x d hx
  have zi : Z.In h' := fun a o e => (hs.2 a fun e' => by subst e'; rw [pr.1] at e; cases e).trans (sim.zin a o e)
  refine { sim with
    zin := zi
    bin := fun a o e => (hs.2 a fun e' => by subst e'; rw [pr.2.1] at e; cases e).trans (sim.bin a o e)
    ns := let ⟨m, hm⟩ := sim.ns; ⟨m, hm.sameBut hs (Ne.symm pr.2.2.2.1)⟩
    cells := fun n cc hc => let ⟨v, o, ho, hd⟩ := sim.cells n cc hc; ⟨v, o, (hs.2 cc (Ne.symm (pr.2.2.2.2 n cc hc))).trans ho, hd⟩
    vars := fun y lv hy => ?_
    inj := fun y z d1 d2 hy hz e => ?_
    privO := fun y d1 hy => ?_
    clk := sim.clk.mono (.refl Z) fun o e => (hs.2 _ (Ne.symm pr.2.2.1)).trans e }
  · have lk : ∀ {y u}, Look env h y u → Look env h' y u := fun l => l.at (fun o e => (hs.2 _ (Ne.symm pr.2.2.2.1)).trans e) fun n cc o hc e => (hs.2 cc (Ne.symm (pr.2.2.2.2 n cc hc))).trans e
    rcases lookup_put hy with ⟨rfl, rfl⟩ | ⟨hne, hy⟩
    · obtain ⟨v, hl, hv, _⟩ := sim.vars _ _ hx
      exact ⟨v, lk hl, hv, ow zi⟩
    · obtain ⟨v, hl, hr⟩ := sim.vars y lv hy
      refine ⟨v, lk hl, ?_⟩
      cases lv with
      | f d1 => exact hr
      | o d1 => exact ⟨hr.1, Own.frame hr.2 (fun o e => (hs.2 _ fun e' => hne (sim.inj y x d1 d hy hx e')).trans e) (.refl Z) zi⟩
  · have old : ∀ {y d1}, ((x, LV.o d') :: ρ).lookup y = some (.o d1) → ∃ d2, ρ.lookup y = some (.o d2) := fun {y d1} hy => by
      rcases lookup_put hy with ⟨rfl, _⟩ | ⟨_, hy⟩
      · exact ⟨d, hx⟩
      · exact ⟨d1, hy⟩
    obtain ⟨_, hy'⟩ := old hy
    obtain ⟨_, hz'⟩ := old hz
    exact sim.inj y z _ _ hy' hz' e
  · rcases lookup_put hy with ⟨rfl, _⟩ | ⟨_, hy⟩
    · exact pr
    · exact sim.privO y d1 hy

theorem SimA.ownName {x : Str} (sim : SimA g env B Z ad ρ c h) (hx : ρ.lookup x = some (.o d)) {A : Around} {E : Value → Shared → Prop} {Q : Value → Shared → Prop} {s : Shared} (hh : s.heap = h) (hq : Q (.ref (ad x)) s)
    (hd : (x == ("__debug__" : Str)) = false) (hc' : (x == ("__classdict__" : Str)) = false) : wpAny g.M A (eval (.Name x p) env) Q E s := by
  subst hh
  obtain ⟨v, hl, rfl, ow⟩ := sim.vars x _ hx
  refine wpAny_Name ?_ hd
  rcases hl with ⟨hk, m, hn, hm⟩ | ⟨hk, a, ha, hc⟩
  · exact wpAny_loadName_local sim.fn hk hn hm hq
  · rcases hk with hk | hk
    · exact wpAny_loadName_cell sim.fn hk ha hc hq
    · exact wpAny_loadName_free sim.fn hk ha hc hq hc'

theorem PList.upd {h : Heap} {a : Addr} {vs : List Value} (x : PList h a vs) (f : Array Value → Array Value) {ws : List Value} (hw : f vs.toArray = ws.toArray) : PList (h.update a (Obj.mapSeq f)) a ws := by
  obtain ⟨n, e⟩ := x
  have : IsL h a vs.toArray n := e
  have := this.update f
  rw [hw] at this
  exact ⟨_, this⟩

section
variable {x : Str}
theorem WS1.append {ds : List D} (hx : ρ.lookup x = some (.o (.list ds))) (he : WE g k env ρ c e d c') (hk : K .next ((x, .o (.list (ds ++ [d]))) :: ρ) c') (hsz : ds.length ≤ sizeLine)
    (hi : interactive env = false := by rfl) (hsw : swapsWith (.Call (.Attribute (.Name x p1) "append" p2) [e] [] p3) Option.none p.line env = pure false := by rfl)
    (hbase : attributeBase (.Name x p1) "append" env (eval (.Name x p1) env) = eval (.Name x p1) env := by rfl) (hline : (p2.endLine == p3.line) = true := by rfl)
    (htrees : backTo p3 (starEach [e] env) = [(false, eval e env)] := by rfl) (hd : (x == ("__debug__" : Str)) = false := by decide) (hcd : (x == ("__classdict__" : Str)) = false := by decide) :
    WS1 g k env ρ c (.Expr (.Call (.Attribute (.Name x p1) "append" p2) [e] [] p3) p) K := .mk fun A E B Z ad s ok sim => by
  refine wpAny_Expr (wpAny_Call_method1_late hbase hline htrees (sim.ownName hx rfl ?_ hd hcd)) hi hsw
  obtain ⟨v, hl, rfl, vs, ⟨n, pl⟩, rl⟩ := sim.vars x _ hx
  refine ⟨"list", "list.append", PySem.F.plainAttrs_list, PySem.F.slot_list_append, rfl, ⟨_, pl, rfl⟩, fun a e => by cases e; exact ⟨_, pl, rfl⟩, ?_⟩
  refine PySem.P.append_list (wpAny_mono (he.go A E B Z ad s ok sim) (fun v s1 ⟨Z1, x1, r1⟩ => ?_) fun _ _ e => e)
  have sim1 := sim.ext x1
  have pl1 := x1.keep _ _ (sim.privO x _ hx).2.2.1 pl
  refine ⟨vs.toArray, n, by rw [List.size_toArray, rl.length]; exact hsz, pl1, Z1, ad, _, c', .next, .ext x1 sim.bin, sim1.mut (d' := .list (ds ++ [d])) hx (Heap.SameBut.update ..) (fun _ => ⟨vs ++ [v], PList.upd ⟨n, pl1⟩ _ (by simp), (RepL.mono rl x1.le).append (.cons r1 .nil)⟩), trivial, hk⟩

theorem WS1.extend {ds es : List D} (hx : ρ.lookup x = some (.o (.list ds))) (he : WE g k env ρ c e (.list es) c') (hk : K .next ((x, .o (.list (ds ++ es))) :: ρ) c') (hsz : ds.length + es.length ≤ sizeLine)
    (hi : interactive env = false := by rfl) (hsw : swapsWith (.Call (.Attribute (.Name x p1) "extend" p2) [e] [] p3) Option.none p.line env = pure false := by rfl)
    (hbase : attributeBase (.Name x p1) "extend" env (eval (.Name x p1) env) = eval (.Name x p1) env := by rfl) (hline : (p2.endLine == p3.line) = true := by rfl)
    (htrees : backTo p3 (starEach [e] env) = [(false, eval e env)] := by rfl) (hd : (x == ("__debug__" : Str)) = false := by decide) (hcd : (x == ("__classdict__" : Str)) = false := by decide) :
    WS1 g k env ρ c (.Expr (.Call (.Attribute (.Name x p1) "extend" p2) [e] [] p3) p) K := .mk fun A E B Z ad s ok sim => by
  refine wpAny_Expr (wpAny_Call_method1_late hbase hline htrees (sim.ownName hx rfl ?_ hd hcd)) hi hsw
  obtain ⟨v, hl, rfl, vs, ⟨n, pl⟩, rl⟩ := sim.vars x _ hx
  refine ⟨"list", "list.extend", PySem.F.plainAttrs_list, PySem.F.slot_list_extend, rfl, ⟨_, pl, rfl⟩, fun a e => by cases e; exact ⟨_, pl, rfl⟩, ?_⟩
  refine PySem.P.extend_list (wpAny_mono (he.go A E B Z ad s ok sim) (fun v s1 ⟨Z1, x1, r1⟩ => ?_) fun _ _ e => e)
  have sim1 := sim.ext x1
  have pl1 := x1.keep _ _ (sim.privO x _ hx).2.2.1 pl
  obtain ⟨b, rfl, ⟨ws, ⟨m, pm⟩, rm⟩, _⟩ := r1.own x1.zin
  have hs : vs.toArray.size + ws.toArray.size ≤ sizeLine := by rw [List.size_toArray, List.size_toArray, rl.length, rm.length]; exact hsz
  refine ⟨b, vs.toArray, ws.toArray, n, m, by omega, by omega, extend_door hs, rfl, pl1, pm, Z1, ad, _, c', .next, .ext x1 sim.bin, sim1.mut (d' := .list (ds ++ es)) hx (Heap.SameBut.update ..) (fun _ => ⟨vs ++ ws, PList.upd ⟨n, pl1⟩ _ (by simp), (RepL.mono rl x1.le).append rm⟩), trivial, hk⟩

/-- x = y.pop() -/
theorem WS1.popLast {y : Str} {ds : List D} (hst : Sto env x) (hy : ρ.lookup y = some (.o (.list (ds ++ [d])))) (hk : K .next ((x, .f d) :: (y, .o (.list ds)) :: ρ) c) (hsz : ds.length + 1 ≤ sizeLine)
    (hsw : swapsWith (.Call (.Attribute (.Name y p1) "pop" p2) [] [] p3) (some (.Name x p4)) p.line env = pure false := by rfl)
    (hbase : attributeBase (.Name y p1) "pop" env (eval (.Name y p1) env) = eval (.Name y p1) env := by rfl) (hline : (p2.endLine == p3.line) = true := by rfl)
    (hd : (y == ("__debug__" : Str)) = false := by decide) (hcd : (y == ("__classdict__" : Str)) = false := by decide) :
    WS1 g k env ρ c (.Assign [.Name x p4] (.Call (.Attribute (.Name y p1) "pop" p2) [] [] p3) p) K := .mk fun A E B Z ad s ok sim => by
  refine wpAny_Assign_Name (wpAny_Call_method0_late hbase hline (sim.ownName hy rfl ?_ hd hcd)) hsw
  obtain ⟨v, hl, rfl, vs, ⟨n, pl⟩, rl⟩ := sim.vars y _ hy
  refine ⟨"list", "list.pop", PySem.F.plainAttrs_list, PySem.F.slot_list_pop, rfl, ⟨_, pl, rfl⟩, fun a e => by cases e; exact ⟨_, pl, rfl⟩, ?_⟩
  have hlen : vs.length = ds.length + 1 := by have := rl.length; simpa using this
  obtain ⟨u, hu, ru⟩ := F2.get' rl (i := ds.length) (b := d) (by simp)
  refine PySem.P.pop_list (y := u) pl (by rw [List.size_toArray, hlen]; simpa using hu) ?_ (by rw [List.size_toArray, hlen]; exact hsz)
  have hvs : vs = vs.take ds.length ++ [u] := by
    have := List.take_append_drop ds.length vs
    have e2 : vs.drop ds.length = [u] := by
      have := List.drop_eq_getElem_cons (l := vs) (i := ds.length) (by omega)
      rw [this]
      have h1 : vs[ds.length] = u := by have := (List.getElem?_eq_some_iff.mp hu).2; exact this
      rw [h1, List.drop_of_length_le (by omega)]
    rw [← e2]; exact this.symm
  have e1 : (vs.toArray.eraseIdxIfInBounds (vs.toArray.size - 1)) = (vs.take ds.length).toArray := by
    rw [List.size_toArray, hlen, List.eraseIdxIfInBounds_toArray]
    congr 1
    rw [show ds.length + 1 - 1 = ds.length by omega]
    conv => lhs; rw [hvs]
    rw [List.eraseIdx_append_of_length_le (by simp [hlen])]
    simp [hlen]
  have rl' : RepL g Z (vs.take ds.length) ds := by have := rl.take ds.length; simpa using this
  have sim1 : SimA g env B Z ad ((y, .o (.list ds)) :: ρ) c (s.heap.update (ad y) (Obj.mapSeq fun xs => xs.eraseIdxIfInBounds (vs.toArray.size - 1))) :=
    sim.mut hy (Heap.SameBut.update ..) fun _ => ⟨vs.take ds.length, PList.upd ⟨n, pl⟩ _ e1, rl'⟩
  exact wp_store (s := { s with heap := _ }) sim1 hst fun q h' tk S => ⟨Z, ad, _, c, .next, .refl, sim1.storedF S ru, trivial, hk⟩
end

/-! x += e -/
theorem seq_list_iadd : seqSlot? (.type "list") (dunderI "add") = pure (some (.builtin "list.__iadd__")) := PySem.seqSlot_of PySem.F.slot_list_iadd.lookup (by decide +kernel)
theorem inplace_list {prog : Program} {w : World} {A : Around} {E : Value → Shared → Prop} {s : Shared} {a b : Addr} {items items2 : Array Value} {n n2 : Nat} {Q : Value → Shared → Prop} (ha : IsL s.heap a items n) (hb : IsL s.heap b items2 n2)
    (hq : Q (.ref a) { s with heap := s.heap.update a (Obj.mapSeq fun x => x ++ items2) }) (hsz : items.size + items2.size ≤ sizeLine) : wpAny (model prog w) A (inplaceOp .Add (.ref a) (.ref b)) Q E s := by
  have ta : s.TypeIs (.ref a) "list" := ⟨_, ha, rfl⟩
  have tb : s.TypeIs (.ref b) "list" := ⟨_, hb, rfl⟩
  unfold inplaceOp
  refine wpAny_holding ?_
  have hfi : fillsInplaceSlot (.type "list") "add" (Operator.Add == .Add) = pure false := by
    unfold fillsInplaceSlot
    show (typeLookup (.type "list") (dunderI "add") >>= fun fi => pure (fi.isSome && !isSeqSlot fi)) = pure false
    rw [PySem.F.slot_list_iadd.lookup]
    show (pure ((some (Value.builtin "list.__iadd__")).isSome && !isSeqSlot (some (Value.builtin "list.__iadd__"))) : Sem Bool) = pure false
    rw [show isSeqSlot (some (Value.builtin "list.__iadd__")) = true by decide +kernel]; rfl
  refine wpAny_bind (wpAny_typeOf ta (wpAny_bind (wpAny_of_eq hfi ?_)))
  show wpAny _ A (if false = true then _ else _) Q E s
  rw [if_neg Bool.false_ne_true]
  refine wpAny_bind (wpAny_binaryOp1_none (nm := "add") ta tb noFill_list_add ?_)
  refine wpAny_bind (wpAny_of_eq seq_list_iadd ?_)
  refine wpAny_bind (wpAny_rule ?_)
  exact call_meets PySem.F.slot_list_iadd ta PySem.F.entry_list_iadd (PySem.F.args_list_iadd_2 _ _) (AutoSeq1.list___iadd___list_list_0 a items n b items2 n2 (extend_door hsz) (by omega) (by omega)) ⟨ha, hb, hq⟩

theorem SimA.loadOwn {x : Str} (sim : SimA g env B Z ad ρ c h) (hx : ρ.lookup x = some (.o d)) {A : Around} {E : Value → Shared → Prop} {Q : Value → Shared → Prop} {s : Shared} (hh : s.heap = h) (hq : Q (.ref (ad x)) s)
    (hc' : (x == ("__classdict__" : Str)) = false) : wpAny g.M A (loadName env x) Q E s := by
  subst hh
  obtain ⟨v, hl, rfl, ow⟩ := sim.vars x _ hx
  rcases hl with ⟨hk, m, hn, hm⟩ | ⟨hk, a, ha, hc⟩
  · exact wpAny_loadName_local sim.fn hk hn hm hq
  · rcases hk with hk | hk
    · exact wpAny_loadName_cell sim.fn hk ha hc hq
    · exact wpAny_loadName_free sim.fn hk ha hc hq hc'
theorem SimA.loadF {x : Str} (sim : SimA g env B Z ad ρ c h) (hx : ρ.lookup x = some (.f d)) {A : Around} {E : Value → Shared → Prop} {Q : Value → Shared → Prop} {s : Shared} (hh : s.heap = h) (hq : ∀ v, g.Rep Z v d → Q v s)
    (hc' : (x == ("__classdict__" : Str)) = false) : wpAny g.M A (loadName env x) Q E s := by
  subst hh
  obtain ⟨v, hl, hr⟩ := sim.vars x _ hx
  rcases hl with ⟨hk, m, hn, hm⟩ | ⟨hk, a, ha, hc⟩
  · exact wpAny_loadName_local sim.fn hk hn hm (hq v hr)
  · rcases hk with hk | hk
    · exact wpAny_loadName_cell sim.fn hk ha hc (hq v hr)
    · exact wpAny_loadName_free sim.fn hk ha hc (hq v hr) hc'

/-- x += e, lists -/
theorem WS1.augList {x : Str} {ds es : List D} (hst : Sto env x) (hx : ρ.lookup x = some (.o (.list ds))) (he : WE g k env ρ c e (.list es) c') (hk : K .next ((x, .o (.list (ds ++ es))) :: (x, .o (.list (ds ++ es))) :: ρ) c') (hsz : ds.length + es.length ≤ sizeLine)
    (hcd : (x == ("__classdict__" : Str)) = false := by decide) : WS1 g k env ρ c (.AugAssign (.Name x p1) .Add e p) K := .mk fun A E B Z ad s ok sim => by
  refine wpAny_AugAssign_Name (sim.loadOwn hx rfl ?_ hcd)
  refine wpAny_mono (he.go A E B Z ad s ok sim) (fun v s1 ⟨Z1, x1, r1⟩ => ?_) fun _ _ e => e
  obtain ⟨_, _, _, vs, ⟨n, pl⟩, rl⟩ := sim.vars x _ hx
  have sim1 := sim.ext x1
  have pl1 := x1.keep _ _ (sim.privO x _ hx).2.2.1 pl
  obtain ⟨b, rfl, ⟨ws, ⟨m, pm⟩, rm⟩, _⟩ := r1.own x1.zin
  refine inplace_list (n := n) (n2 := m) pl1 pm ?_ (by rw [List.size_toArray, List.size_toArray, rl.length, rm.length]; exact hsz)
  have sim2 : SimA g env B Z1 ad ((x, .o (.list (ds ++ es))) :: ρ) c' (s1.heap.update (ad x) (Obj.mapSeq fun y => y ++ ws.toArray)) :=
    sim1.mut hx (Heap.SameBut.update ..) fun _ => ⟨vs ++ ws, PList.upd ⟨n, pl1⟩ _ (by simp), (RepL.mono rl x1.le).append rm⟩
  have hx2 : ((x, LV.o (.list (ds ++ es))) :: ρ).lookup x = some (.o (.list (ds ++ es))) := by simp
  have pr := sim2.privO x _ hx2
  obtain ⟨v, hl, rfl, ow⟩ := sim2.vars x _ hx2
  refine wp_store (s := { s1 with heap := _ }) sim2 hst fun q h' tk S => ⟨Z1, ad, _, c', .next, .ext x1 sim.bin, sim2.stored S (lv := .o (.list (ds ++ es))) (fun _ _ => rfl) (fun i => ⟨rfl, Own.frame ow (fun o e => (S.same.2 _ fun e' => ?_).trans e) (.refl _) i⟩) (fun d' e => ?_), trivial, hk⟩
  · rcases S.here with e'' | ⟨n, hn⟩
    · exact pr.2.2.2.1 (e'.trans e'')
    · exact pr.2.2.2.2 n q hn e'
  · exact ⟨pr.1, pr.2.1, pr.2.2.1, pr.2.2.2.1, pr.2.2.2.2, fun y d'' hy hl e => hy (sim2.inj y x d'' _ hl hx2 e.symm)⟩
/-- x += e, ints -/
theorem WS1.augInt {x : Str} {a b : Int} (hst : Sto env x) (hx : ρ.lookup x = some (.f (.int a))) (he : WE g k env ρ c e (.int b) c') (hk : K .next ((x, .f (.int (a + b))) :: ρ) c')
    (hcd : (x == ("__classdict__" : Str)) = false := by decide) : WS1 g k env ρ c (.AugAssign (.Name x p1) .Add e p) K := .mk fun A E B Z ad s ok sim => by
  refine wpAny_AugAssign_Name (sim.loadF hx rfl (fun v hv => ?_) hcd)
  obtain ⟨_, rfl⟩ := rep_int hv
  refine wpAny_mono (he.go A E B Z ad s ok sim) (fun v s1 ⟨Z1, x1, r1⟩ => ?_) fun _ _ e => e
  obtain ⟨_, rfl⟩ := rep_int r1
  refine wpAny_iadd_int ?_
  exact wp_store (s := { s1 with toks := _ }) (sim.ext x1.to) hst fun q h' tk S => ⟨Z1, ad, _, c', .next, .ext x1 sim.bin, (sim.ext x1).storedF S (.int _ _), trivial, hk⟩
end Mine
end

section
open PySem PySem.W PyProof.Rows
set_option linter.unusedVariables false
set_option maxRecDepth 100000
namespace Mine
variable {g : Cx} {k : Nat} {env : Env} {B Z Z' Z'' : Zm} {ad : Str → Addr} {ρ : Rho} {c c' c'' c1 c2 c3 : Int} {h h' h'' : Heap} {e l r : Expr} {d d1 d2 : D} {p p1 p2 p3 p4 p5 : Pos} {mg mb : Str → Option Value}
variable {K K' : Fl → Rho → Int → Prop} {ss : List Stmt} {st : Stmt}

/-! the keys of a dict of tuples, one by one -/
section
variable {A : Around} {E : Value → Shared → Prop} {s : Shared} {prog : Program} {w : World}
theorem iter_rawdict {d : Addr} {o : Obj} {es : Array DictEntry} {ep : Nat} {Q : Value → Shared → Prop} (hd : (d == sysModules) = false) (ho : s.heap.get? d = some o) (hc : o.ExactDict) (hdat : o.data = .dict es ep)
    (hQ : Q (.ref s.heap.objs.size) { s with heap := s.heap.push { cls := .type "dict_keyiterator", data := .fields #[.ref d, .int 0 0, .int es.size 0, .int ep 0] } }) :
    wpAny (model prog w) A (pyIter (.ref d)) Q E s := by
  have hT : s.TypeIs (.ref d) "dict" := ⟨o, ho, hc.1⟩
  refine wpAny_pyIter_slot hT F.slot_dict_iter (wpAny_call_entry F.slot_dict_iter hT F.entry_dict_iter ?_ (F.args_dict_iter_1 _))
  unfold Builtin.«dict.__iter__»
  refine wpAny_bind ?_
  unfold Builtin.Dict.dictSlotNone
  refine wpAny_bind (wpAny_notOrdered_dict hT ?_)
  show wpAny _ _ (pure (Value.ref d)) _ _ s
  refine wpAny_pure ?_
  show wpAny _ _ (Builtin.Dict.showsAll d >>= _) _ _ s
  unfold Builtin.Dict.showsAll
  rw [if_neg (by rw [hd]; exact Bool.false_ne_true)]
  refine wpAny_bind (wpAny_pure ?_)
  refine wpAny_bind (wpAny_dictEntries ho hdat ?_)
  refine wpAny_bind (wpAny_dictEpoch ho hdat ?_)
  refine wpAny_bind (wpAny_newObj_type (wpAny_pure ⟨_, rfl, "dict_keyiterator", _, ⟨_, Heap.get?_push_size _ rfl, rfl⟩, F.slot_dict_keyiterator_next.lookup, ?_⟩))
  simpa [rawInt] using hQ

theorem next_rawdict {it d : Addr} {o2 : Obj} {es : Array DictEntry} {i ep : Nat} {en : DictEntry} {Q : Option Value → Shared → Prop} (hit : s.heap.IsKeyIter it d i es.size ep)
    (hod : s.heap.get? d = some o2) (hdd : o2.data = .dict es ep) (hx : es[i]? = some en)
    (hQ : ∀ h', h'.IsKeyIter it d (i + 1) es.size ep → Heap.SameBut it s.heap h' → Q (some en.key) { s with heap := h' }) :
    wpAny (model prog w) A (pyNext (.ref it)) Q E s := by
  obtain ⟨o, ho, hc, hd⟩ := id hit
  unfold pyNext
  refine wpAny_bind (wpAny_attempt (wpAny_callSpecial?_slot (name := Str.ofString "__next__") hit.typeIs F.slot_dict_keyiterator_next
    (wpAny_call_entry F.slot_dict_keyiterator_next hit.typeIs F.entry_dict_keyiterator_next ?_ (F.args_dict_keyiterator_next_1 _))))
  refine wpAny_bind (wpAny_pure ?_)
  refine wpAny_bind ?_
  refine wpAny_bind ?_
  first | refine wpAny_bind (wpAny_typeNameOfWhole_keyiter hit.typeIs (wpAny_pure ?_)) | refine wpAny_bind (wpAny_typeNameOf_keyiter hit.typeIs (wpAny_pure ?_))
  refine wpAny_bind (wpAny_fieldsOf ho hd ?_)
  have hown : Builtin.Dict_items.ownsTuple "dict_keyiterator" = false := by decide
  simp only [hown, Bool.false_eq_true, if_false]
  show wpAny _ _ (if (Value.ref d == Value.none) = true then _ else _) _ _ s
  rw [if_neg (show ¬ ((Value.ref d == Value.none) = true) from Bool.false_ne_true)]
  refine wpAny_bind (wpAny_pure ?_)
  refine wpAny_bind (wpAny_dictEntries hod hdd ?_)
  rw [if_neg (by simp)]
  refine wpAny_bind (wpAny_pure ?_)
  refine wpAny_bind (wpAny_dictEpoch hod hdd ?_)
  rw [if_neg (by simp)]
  refine wpAny_pure ?_
  simp only [show ¬ ((i : Int) < 0) from by omega, if_false, Int.toNat_natCast, hx]
  refine wpAny_bind ?_
  first | refine wpAny_bind (wpAny_typeNameOfWhole_keyiter hit.typeIs (wpAny_pure ?_)) | refine wpAny_bind (wpAny_typeNameOf_keyiter hit.typeIs (wpAny_pure ?_))
  refine wpAny_bind (wpAny_isOneOf_keyiter hit.typeIs ?_)
  show wpAny _ _ (setField (.ref it) 1 (rawInt ((i : Int) + 1)) >>= _) _ _ s
  refine wpAny_bind (wpAny_setField ho hd (by simp) ?_)
  have hit' : (s.heap.update it (Obj.mapFields (·.setIfInBounds 1 (rawInt ((i : Int) + 1))))).IsKeyIter it d (i + 1) es.size ep :=
    ⟨_, Heap.get?_update_self _ ho (Obj.isFreed_of_fields (Obj.data_mapFields hd _)), (Obj.cls_mapFields ..).trans hc, by rw [Obj.data_mapFields hd]; simp [rawInt]⟩
  refine wpAny_bind (wpAny_holding ?_)
  refine wpAny_bind (wpAny_isOneOf_keyiter (s := { s with heap := s.heap.update it (Obj.mapFields (·.setIfInBounds 1 (rawInt ((i : Int) + 1)))) }) hit'.typeIs ?_)
  show wpAny _ _ (pure en.key) _ _ _
  exact wpAny_pure (wpAny_pure ⟨_, rfl, wpAny_pure (hQ _ hit' (Heap.SameBut.update ..))⟩)

theorem end_rawdict {it d : Addr} {o2 : Obj} {es : Array DictEntry} {i ep : Nat} {Q : Option Value → Shared → Prop} (hh : A.handled = none) (hit : s.heap.IsKeyIter it d i es.size ep)
    (hod : s.heap.get? d = some o2) (hdd : o2.data = .dict es ep) (hge : es.size ≤ i)
    (hQ : ∀ h', Heap.ExtBut it s.heap h' → Q none { s with heap := h' }) : wpAny (model prog w) A (pyNext (.ref it)) Q E s := by
  obtain ⟨o, ho, hc, hd⟩ := id hit
  unfold pyNext
  refine wpAny_bind (wpAny_attempt (wpAny_callSpecial?_slot (name := Str.ofString "__next__") hit.typeIs F.slot_dict_keyiterator_next
    (wpAny_call_entry F.slot_dict_keyiterator_next hit.typeIs F.entry_dict_keyiterator_next ?_ (F.args_dict_keyiterator_next_1 _))))
  refine wpAny_bind (wpAny_pure ?_)
  refine wpAny_bind ?_
  refine wpAny_bind ?_
  first | refine wpAny_bind (wpAny_typeNameOfWhole_keyiter hit.typeIs (wpAny_pure ?_)) | refine wpAny_bind (wpAny_typeNameOf_keyiter hit.typeIs (wpAny_pure ?_))
  refine wpAny_bind (wpAny_fieldsOf ho hd ?_)
  have hown : Builtin.Dict_items.ownsTuple "dict_keyiterator" = false := by decide
  simp only [hown, Bool.false_eq_true, if_false]
  show wpAny _ _ (if (Value.ref d == Value.none) = true then _ else _) _ _ s
  rw [if_neg (show ¬ ((Value.ref d == Value.none) = true) from Bool.false_ne_true)]
  refine wpAny_bind (wpAny_pure ?_)
  refine wpAny_bind (wpAny_dictEntries hod hdd ?_)
  rw [if_neg (by simp)]
  refine wpAny_bind (wpAny_pure ?_)
  refine wpAny_bind (wpAny_dictEpoch hod hdd ?_)
  rw [if_neg (by simp)]
  refine wpAny_pure ?_
  simp only [show ¬ ((i : Int) < 0) from by omega, if_false, Int.toNat_natCast, Array.getElem?_eq_none hge]
  refine wpAny_bind ?_
  first | refine wpAny_bind (wpAny_typeNameOfWhole_keyiter hit.typeIs (wpAny_pure ?_)) | refine wpAny_bind (wpAny_typeNameOf_keyiter hit.typeIs (wpAny_pure ?_))
  show wpAny _ _ (setField (.ref it) 0 .none >>= _) _ _ s
  refine wpAny_bind (wpAny_setField ho hd (by simp) ?_)
  show wpAny _ _ (newExc (.type "StopIteration") [] >>= _) _ _ _
  refine wpAny_bind ?_
  simp only [newExc, newTuple]
  refine wpAny_bind (wpAny_newObj_type ?_ (by size_fits))
  refine wpAny_bind (m := firstArgMember _ _) (wpAny_of_eq (a := Value.none) (by first | rfl | (simp only [firstArgMember]; rfl)) ?_)
  refine wpAny_newObj_type ?_ (by size_fits)
  simp only [raiseNew]
  refine wpAny_bind (wpAny_handled ?_)
  rw [show A.in1.handled = none from hh]
  refine wpAny_bind (wpAny_pure (wpAny_throw ?_))
  refine wpAny_bind (wpAny_isInstance (T := "StopIteration") (b := true) ⟨_, Heap.get?_push_size _ rfl, rfl⟩ isSubtype_stop ?_)
  exact wpAny_pure (hQ _ (((Heap.SameBut.update ..).extBut.push _).push _))

theorem walks_rawdict (hh : A.handled = none) (I d : Addr) (hne : d ≠ I) (es : Array DictEntry) (ep : Nat) :
    Walks prog w A I [I, d] [I] es.size (fun i v => ∃ en, es[i]? = some en ∧ v = en.key) (fun i h => h.IsKeyIter I d i es.size ep ∧ ∃ o, h.get? d = some o ∧ o.data = .dict es ep) where
  sub := fun b hb => by simp at hb; simp [hb]
  frame := fun _ _ _ st hk => ⟨st.1.at fun o e => hk I (by simp) o e, let ⟨o, ho, hd⟩ := st.2; ⟨o, hk d (by simp) o ho, hd⟩⟩
  item := fun i s Q E hi st hQ => by
    obtain ⟨o, ho, hd⟩ := st.2
    refine next_rawdict (en := es[i]) st.1 ho hd (by simp [hi]) fun h' hit' hs' => ?_
    exact hQ _ h' s.toks ⟨es[i], by simp [hi], rfl⟩ ⟨hit', o, (hs'.2 d hne).trans ho, hd⟩ fun b o hb e => hs'.extBut b o (fun h => hb (by simp [h])) e
  done := fun s Q E st hQ => by
    obtain ⟨o, ho, hd⟩ := st.2
    exact end_rawdict hh st.1 ho hd (Nat.le_refl _) fun h' he' => hQ h' s.toks fun b o hb e => he' b o (fun h => hb (by simp [h])) e
  self := fun _ _ _ _ st hQ => wpAny_pyIter_keyiter st.1 hQ
end

/-! what a for walks over -/
inductive Iters : D → List D → Prop
  | list (ds) : Iters (.list ds) ds
  | tup (ds) : Iters (.tup ds) ds
  | rng (n : Nat) : Iters (.rng n) ((List.range n).map fun i : Nat => D.int (i : Int))
  | dT (es : List ((Str × Str) × D)) : Iters (.dT es) (es.map fun e => D.tup [.str e.1.1, .str e.1.2])

structure WalkAt (g : Cx) (A : Around) (I : Addr) (Z : Zm) (items : List D) (P : Nat → Value → Prop) (St : Nat → Heap → Prop) (fp : List Addr) : Prop where
  walks : Walks g.prog g.w A I fp [I] items.length P St
  foot : ∀ b ∈ fp, b = I ∨ ∃ o, Z b = some o
  item : ∀ i v, P i v → ∃ d, items[i]? = some d ∧ g.Rep Z v d
  go : ∀ i (s' : Shared) (target : Expr) v (Q' : Unit → Shared → Prop) (E : Value → Shared → Prop), St i s'.heap → Q' () s' → wpAny g.M A (letOwnedTupleGo target (.ref I) v) Q' E s'
  there : ∀ i h, St i h → ∃ o, h.get? I = some o

theorem says_there {a : Addr} {P : Heap → Prop} (x : Z.Says P) (i : Z.In h) (hn : ∀ h' : Heap, h'.get? a = none → ¬ P h') : ∃ o, Z a = some o := by
  cases e : Z a with
  | some o => exact ⟨o, rfl⟩
  | none =>
    exfalso
    have hf : (h.update a fun _ => ⟨.none, none, .freed, #[]⟩).get? a = none := by
      cases h
      simp only [Heap.update, Heap.get?, Array.getElem?_modify, if_true]
      rename_i objs life
      cases objs[a]? <;> rfl
    refine hn _ hf (x _ fun b o hb => ?_)
    by_cases hba : b = a
    · subst hba; rw [e] at hb; cases hb
    · rw [Heap.get?_update_ne _ _ _ _ hba]; exact i b o hb
theorem tupKey_rep {b : Addr} {x y : Str} (q : Z.Says fun h => TKey g h [x, y] b) (i : Z.In h) : g.Rep Z (.ref b) (.tup [.str x, .str y]) := by
  have hth : ∃ o, Z b = some o := says_there q i fun h' hn ⟨⟨o, items, n, ho, _⟩, _⟩ => by rw [hn] at ho; cases ho
  obtain ⟨o, hz⟩ := hth
  obtain ⟨⟨o1, items, n, ho1, hc1, hd1, hit⟩, vs, m, ho2⟩ := q h i
  rw [ho2] at ho1
  have e1 := Option.some.inj ho1
  subst e1
  obtain ⟨rfl, rfl⟩ : vs.toArray = items ∧ m = n := by simpa using hd1
  have ez : Z b = some { cls := .type "tuple", data := .seq vs.toArray m } := by
    have := i _ _ hz; rw [ho2] at this; cases this; exact hz
  have hl : ∃ u v, vs = [u, v] ∧ (strKind g.prog g.w).is x u = true ∧ (strKind g.prog g.w).is y v = true := by
    change PySem.ItemsAre _ _ vs at hit
    cases hit with
    | cons h1 t => cases t with
      | cons h2 t => cases t; exact ⟨_, _, rfl, h1, h2⟩
  obtain ⟨u, v, rfl, h1, h2⟩ := hl
  refine .tup b [u, v] _ ⟨_, ez⟩ (fun h' i' => ⟨m, i' _ _ ez⟩) rfl fun j v' d hv hd => ?_
  obtain ⟨t1, rfl⟩ := Value.isStrOf_shape h1
  obtain ⟨t2, rfl⟩ := Value.isStrOf_shape h2
  match j with
  | 0 => simp at hv hd; subst hv; subst hd; exact .str _ _
  | 1 => simp at hv hd; subst hv; subst hd; exact .str _ _
  | j + 2 => simp at hv

/-- a walk begins -/
theorem iterStart {v : Value} {items : List D} {A : Around} {E : Value → Shared → Prop} {s : Shared} {Q : Value → Shared → Prop} (hI : Iters d items) (hr : g.Rep Z v d) (zi : Z.In s.heap) (hh : A.handled = none)
    (hq : ∀ o P St fp, o.isFreed = false → WalkAt g A s.heap.objs.size Z items P St fp → St 0 (s.heap.push o) → Q (.ref s.heap.objs.size) { s with heap := s.heap.push o }) : wpAny g.M A (pyIter v) Q E s := by
  cases hI with
  | list ds =>
    cases hr with
    | list a vs _ h0 h1 h2 h3 =>
      have pl := h1 _ zi
      have hlt : a < s.heap.objs.size := Heap.lt_size pl.choose_spec
      have e : vs.toArray.size = items.length := by simpa using h2
      refine wpAny_pyIter_list pl.isList (hq _ (fun i v => vs.toArray[i]? = some v) _ [s.heap.objs.size, a] rfl ⟨e ▸ Walks.list hh _ a (Nat.ne_of_lt hlt) vs.toArray, fun b hb => ?_, fun i v hv => ?_, fun i s' target v Q' E st hQ => letGo_listiter st.1 hQ, fun i h st => ⟨_, st.1.choose_spec.1⟩⟩ ⟨⟨_, Heap.get?_push_size _ rfl, rfl, rfl⟩, pl.isList.at fun o e => Heap.get?_push_of_some _ e⟩)
      · simp at hb; rcases hb with rfl | rfl
        · exact .inl rfl
        · exact .inr h0
      · have hv' : vs[i]? = some v := by simpa using hv
        have hi : i < items.length := by rw [← h2]; exact (List.getElem?_eq_some_iff.mp hv').1
        exact ⟨items[i], by simp [hi], h3 i v _ hv' (by simp [hi])⟩
  | tup ds =>
    cases hr with
    | tup a vs _ h0 h1 h2 h3 =>
      have pl := h1 _ zi
      have hlt : a < s.heap.objs.size := Heap.lt_size pl.choose_spec
      have e : vs.toArray.size = items.length := by simpa using h2
      refine wpAny_pyIter_tuple pl.isTuple (hq _ (fun i v => vs.toArray[i]? = some v) _ [s.heap.objs.size, a] rfl ⟨e ▸ Walks.tuple hh _ a (Nat.ne_of_lt hlt) vs.toArray, fun b hb => ?_, fun i v hv => ?_, fun i s' target v Q' E st hQ => letGo_tupleiter st.1 hQ, fun i h st => ⟨_, st.1.choose_spec.1⟩⟩ ⟨⟨_, Heap.get?_push_size _ rfl, rfl, rfl⟩, pl.isTuple.at fun o e => Heap.get?_push_of_some _ e⟩)
      · simp at hb; rcases hb with rfl | rfl
        · exact .inl rfl
        · exact .inr h0
      · have hv' : vs[i]? = some v := by simpa using hv
        have hi : i < items.length := by rw [← h2]; exact (List.getElem?_eq_some_iff.mp hv').1
        exact ⟨items[i], by simp [hi], h3 i v _ hv' (by simp [hi])⟩
  | rng n =>
    cases hr with
    | rng a _ h0 h1 =>
      obtain ⟨hn, t, u, v, hr⟩ := h1 _ zi
      have hs : Builtin.Range.small 0 (n : Int) 1 = true := small_one (by decide) (by decide) (by omega) (by omega)
      have hsz : Builtin.Range.rangeSize 0 (n : Int) 1 = n := by rw [rangeSize_one]; split <;> omega
      have e : n = ((List.range n).map fun i : Nat => D.int (i : Int)).length := by simp
      refine wpAny_pyIter_range hr hs (hq _ (fun i v => i < n ∧ ∃ t, v = .int (0 + i * 1) t) (fun i h => IsRangeIter h s.heap.objs.size (0 + (i : Nat) * 1) ((n : Int) - (i : Nat)) 1) [s.heap.objs.size] rfl ⟨?_, fun b hb => ?_, fun i v hv => ?_, fun i s' target v Q' E st hQ => ?_, fun i h st => ⟨_, st⟩⟩ ?_)
      · rw [← e]
        have W := Walks.range (prog := g.prog) (w := g.w) hh s.heap.objs.size 0 1 n
        exact { W with item := fun i s' Q E hi st hQ => W.item i s' Q E hi st fun v h' tk pv st' k' => hQ v h' tk ⟨hi, pv⟩ st' k' }
      · simp at hb; exact .inl hb
      · obtain ⟨hi, t, rfl⟩ := hv
        refine ⟨.int i, by simp [hi], ?_⟩
        have : (0 + (i : Int) * 1) = i := by omega
        rw [this]; exact .int _ _
      · unfold letOwnedTupleGo
        cases target <;> first
          | exact wpAny_pure hQ
          | (cases v <;> first
              | exact wpAny_pure hQ
              | (refine wpAny_bind (wpAny_load st ?_)
                 exact wpAny_pure hQ))
      · rw [hsz]; show IsRangeIter _ _ _ _ _; simp only [Int.natCast_zero, Int.zero_mul, Int.add_zero, Int.sub_zero]; exact Heap.get?_push_size _ rfl
  | dT es =>
    cases hr with
    | dT a xs _ h0 hs h1 h2 h3 h4 =>
      obtain ⟨o, en, ep, ho, hc, hdat, hen, hk, _⟩ := h1 _ zi
      have hlt : a < s.heap.objs.size := Heap.lt_size ho
      have hl : xs.length = es.length := by simpa using congrArg List.length h2
      have e : en.size = (es.map fun e => D.tup [.str e.1.1, .str e.1.2]).length := by rw [size_of_entries hen, List.length_map]; exact hl
      refine iter_rawdict hs ho hc hdat (hq _ (fun i v => ∃ q, en[i]? = some q ∧ v = q.key) (fun i h => h.IsKeyIter s.heap.objs.size a i en.size ep ∧ ∃ o, h.get? a = some o ∧ o.data = .dict en ep) [s.heap.objs.size, a] rfl ⟨by rw [← e]; exact walks_rawdict hh _ a (Nat.ne_of_lt hlt) en ep, fun b hb => ?_, fun i v hv => ?_, fun i s' target v Q' E st hQ => letGo_keyiter st.1 hQ, fun i h st => ⟨_, st.1.choose_spec.1⟩⟩ ⟨⟨_, Heap.get?_push_size _ rfl, rfl, rfl⟩, o, Heap.get?_push_of_some _ ho, hdat⟩)
      · simp at hb; rcases hb with rfl | rfl
        · exact .inl rfl
        · exact .inr h0
      · obtain ⟨q, hq1, rfl⟩ := hv
        rw [entry_at hen, Option.map_eq_some_iff] at hq1
        obtain ⟨x, hx, rfl⟩ := hq1
        have := congrArg (·[i]?) h2
        simp only [List.getElem?_map, hx, Option.map_some] at this
        obtain ⟨y, hy, hxy⟩ := Option.map_eq_some_iff.mp this.symm
        refine ⟨.tup [.str y.1.1, .str y.1.2], by simp [hy], ?_⟩
        refine tupKey_rep (h := s.heap) ?_ zi
        rw [hxy]
        exact h3 x (List.mem_of_getElem? hx)
theorem SimA.turn' {I : Addr} {o : Obj} {B' : Zm} (sim : SimA g env (B.add I o) Z ad ρ c h) (hz : Z I = none) (hk : ∀ b q, b ≠ I → h.get? b = some q → h'.get? b = some q) (bb : ∀ {a}, (B.add I o) a = none → B' a = none) (bi : B'.In h') : SimA g env B' Z ad ρ c h' := by
  have self : (B.add I o) I = some o := Zm.add_self ..
  have ne : ∀ {a}, (B.add I o) a = none → a ≠ I := fun {a} e q => by rw [q, self] at e; cases e
  have zi : Z.In h' := fun a q e => hk a q (fun e' => by rw [e', hz] at e; cases e) (sim.zin a q e)
  refine { sim with
    zin := zi
    bin := bi
    ns := let ⟨m, hm⟩ := sim.ns; ⟨m, hm.at' fun q e => hk _ q (ne sim.privL.2.1) e⟩
    cells := fun n cc hc => let ⟨v, q, e, hd⟩ := sim.cells n cc hc; ⟨v, q, hk _ q (ne (sim.privC n cc hc).2.1) e, hd⟩
    vars := fun y lv hy => ?_
    privL := ⟨sim.privL.1, bb sim.privL.2.1, sim.privL.2.2⟩
    privC := fun n cc hc => ⟨(sim.privC n cc hc).1, bb (sim.privC n cc hc).2.1, (sim.privC n cc hc).2.2⟩
    privO := fun y d hy => ⟨(sim.privO y d hy).1, bb (sim.privO y d hy).2.1, (sim.privO y d hy).2.2⟩
    clk := sim.clk.mono (.refl Z) fun q e => hk _ q (ne sim.kap.2) e
    kap := ⟨sim.kap.1, bb sim.kap.2⟩ }
  obtain ⟨v, hl, hr⟩ := sim.vars y lv hy
  refine ⟨v, hl.at (fun q e => hk _ q (ne sim.privL.2.1) e) fun n cc q hc e => hk _ q (ne (sim.privC n cc hc).2.1) e, ?_⟩
  cases lv with
  | f d1 => exact hr
  | o d1 => exact ⟨hr.1, Own.frame hr.2 (fun q e => hk _ q (ne (sim.privO y d1 hy).2.1) e) (.refl _) zi⟩
theorem SimA.turn {I : Addr} {o o' : Obj} (sim : SimA g env (B.add I o) Z ad ρ c h) (hz : Z I = none) (hk : ∀ b q, b ≠ I → h.get? b = some q → h'.get? b = some q) (hi : h'.get? I = some o') : SimA g env (B.add I o') Z ad ρ c h' := by
  refine sim.turn' hz hk (fun {a} e => ?_) fun a q e => ?_
  · have ne : a ≠ I := fun q => by rw [q, Zm.add_self] at e; cases e
    rw [Zm.add_other _ _ ne] at e ⊢; exact e
  · by_cases ha : a = I
    · subst ha; rw [Zm.add_self] at e; cases e; exact hi
    · rw [Zm.add_other _ _ ha] at e
      exact hk a q ha (sim.bin a q (by rw [Zm.add_other _ _ ha]; exact e))
theorem SimA.leave {I : Addr} {o : Obj} (sim : SimA g env (B.add I o) Z ad ρ c h) (hz : Z I = none) (hB : B I = none) (hk : ∀ b q, b ≠ I → h.get? b = some q → h'.get? b = some q) : SimA g env B Z ad ρ c h' := by
  refine sim.turn' hz hk (fun {a} e => ?_) fun a q e => ?_
  · have ne : a ≠ I := fun q => by rw [q, Zm.add_self] at e; cases e
    rw [Zm.add_other _ _ ne] at e; exact e
  · have ha : a ≠ I := fun q => by rw [q, hB] at e; cases e
    exact hk a q ha (sim.bin a q (by rw [Zm.add_other _ _ ha]; exact e))

/-- less is kept -/
theorem SimA.lessB {B' : Zm} (sim : SimA g env B' Z ad ρ c h) (l : B.Le B') : SimA g env B Z ad ρ c h := by
  have nn : ∀ {a}, B' a = none → B a = none := fun {a} e => by
    cases q : B a with
    | none => rfl
    | some o => rw [l a o q] at e; cases e
  exact { sim with
    bin := fun a q e => sim.bin a q (l a q e)
    privL := ⟨sim.privL.1, nn sim.privL.2.1, sim.privL.2.2⟩
    privC := fun n cc hc => ⟨(sim.privC n cc hc).1, nn (sim.privC n cc hc).2.1, (sim.privC n cc hc).2.2⟩
    privO := fun y d hy => ⟨(sim.privO y d hy).1, nn (sim.privO y d hy).2.1, (sim.privO y d hy).2.2⟩
    kap := ⟨sim.kap.1, nn sim.kap.2⟩ }
/-- one thing more is kept -/
theorem SimA.moreB {I : Addr} {o : Obj} (sim : SimA g env B Z ad ρ c h) (hf : h'.get? I = some o) (hn : h.get? I = none) (hk : ∀ b q, h.get? b = some q → h'.get? b = some q) : SimA g env (B.add I o) Z ad ρ c h' := by
  obtain ⟨f1, f2, f3, f4, f5⟩ := fresh_apart sim hn
  have bb : ∀ {a}, a ≠ I → B a = none → (B.add I o) a = none := fun {a} q e => by rw [Zm.add_other _ _ q]; exact e
  have zi : Z.In h' := fun a q e => hk a q (sim.zin a q e)
  refine { sim with
    zin := zi
    bin := fun a q e => ?_
    ns := let ⟨m, hm⟩ := sim.ns; ⟨m, hm.at' fun q e => hk _ q e⟩
    cells := fun n cc hc => let ⟨v, q, e, hd⟩ := sim.cells n cc hc; ⟨v, q, hk _ q e, hd⟩
    vars := fun y lv hy => ?_
    privL := ⟨sim.privL.1, bb (Ne.symm f3) sim.privL.2.1, sim.privL.2.2⟩
    privC := fun n cc hc => ⟨(sim.privC n cc hc).1, bb (Ne.symm (f4 n cc hc)) (sim.privC n cc hc).2.1, (sim.privC n cc hc).2.2⟩
    privO := fun y d hy => ⟨(sim.privO y d hy).1, bb (Ne.symm (f5 y d hy)) (sim.privO y d hy).2.1, (sim.privO y d hy).2.2⟩
    clk := sim.clk.mono (.refl Z) fun q e => hk _ q e
    kap := ⟨sim.kap.1, bb (Ne.symm f2) sim.kap.2⟩ }
  · by_cases ha : a = I
    · subst ha; rw [Zm.add_self] at e; cases e; exact hf
    · rw [Zm.add_other _ _ ha] at e
      exact hk a q (sim.bin a q e)
  · obtain ⟨v, hl, hr⟩ := sim.vars y lv hy
    refine ⟨v, hl.at (fun q e => hk _ q e) fun n cc q hc e => hk _ q e, ?_⟩
    cases lv with
    | f d1 => exact hr
    | o d1 => exact ⟨hr.1, Own.frame hr.2 (fun q e => hk _ q e) (.refl _) zi⟩

/-! targets -/
noncomputable def WA (g : Cx) (env : Env) (target : Expr) (d : D) (ρ ρ' : Rho) : Prop :=
  ∀ A E B Z ad c s v (Q : Unit → Shared → Prop), A.handled = none → SimA g env B Z ad ρ c s.heap → g.Rep Z v d → (∀ h' tk, SimA g env B Z ad ρ' c h' → Q () { s with heap := h', toks := tk }) → wpAny g.M A (assign target env v) Q E s
theorem WA.name {x : Str} (hst : Sto env x) : WA g env (.Name x p) d ρ ((x, .f d) :: ρ) := fun A E B Z ad c s v Q hh sim r hq =>
  wpAny_assign_Name (wp_store sim hst fun q h' tk S => hq h' tk (sim.storedF S r))

/-- for target in iter: body; J i: what holds ahead of turn i -/
theorem WS1.forIn {target iter : Expr} {body : List Stmt} {items : List D} (he : WE g k env ρ c iter d c1) (hI : Iters d items) (J : Nat → Rho → Int → Prop)
    (h0 : ∃ ρ0, Sub ρ0 ρ ∧ J 0 ρ0 c1)
    (hstep : ∀ i d1 ρ1 c1, items[i]? = some d1 → J i ρ1 c1 → ∃ ρ2, WA g env target d1 ρ1 ρ2 ∧ WS g k env ρ2 c1 body (fun fl ρ3 c3 => match fl with
      | .next | .cont => ∃ ρ4, Sub ρ4 ρ3 ∧ J (i + 1) ρ4 c3
      | .brk => K .next ρ3 c3
      | .ret d => K (.ret d) ρ3 c3))
    (hdone : ∀ ρ1 c1, J items.length ρ1 c1 → K .next ρ1 c1)
    (hs : ∀ x, foldedSetIterable iter env x = pure x := by intro _; rfl) : WS1 g k env ρ c (.For target iter body [] p) K := .mk fun A E B Z ad s ok sim => by
  refine wpAny_For (wpAny_mono (he.go A E B Z ad s ok sim) (fun v s1 ⟨Z1, x1, r1⟩ => ?_) fun _ _ e => e) hs
  have sim1 := sim.ext x1
  have hzi1 := x1.zin
  refine iterStart hI r1 x1.zin ok.hd fun o P St fp hof W st => ?_
  obtain ⟨ρ0, hsub, hJ0⟩ := h0
  have hnone : s1.heap.get? s1.heap.objs.size = none := fresh_none _
  have hI0 : (s1.heap.push o).get? s1.heap.objs.size = some o := Heap.get?_push_size _ hof
  have simI : SimA g env (B.add s1.heap.objs.size o) Z1 ad ρ0 c1 (s1.heap.push o) := (sim1.moreB hI0 hnone fun b q e => Heap.get?_push_of_some _ e).weaken hsub
  have hzI : Z1 s1.heap.objs.size = none := x1.zin.fresh
  have hBI : B s1.heap.objs.size = none := (fresh_apart sim1 hnone).1
  generalize s1.heap.objs.size = I at *
  have leB : ∀ o, B.Le (B.add I o) := fun o => Zm.le_add o hBI
  refine codeAny_forLoop_any
    (fun n s' => ∃ i o Z2 ad ρ2 c2, n = items.length + 1 - i ∧ i ≤ items.length ∧ ZStep B Z1 Z2 s1 s' ∧ Z2 I = none ∧ SimA g env (B.add I o) Z2 ad ρ2 c2 s'.heap ∧ St i s'.heap ∧ J i ρ2 c2) ?_ (items.length + 1)
    ⟨0, o, Z1, ad, ρ0, c1, rfl, Nat.zero_le _, .refl, hzI, simI, st, hJ0⟩
  rintro n s2 ⟨i, o2, Z2, ad2, ρ2, c2, rfl, hi, z2, hz2, sim2, st2, hJ⟩
  by_cases hlt : i < items.length
  · refine W.walks.item i s2 _ _ hlt st2 fun v h3 tk3 hP st3 hk3 => ?_
    obtain ⟨d1, hd1, rv⟩ := W.item i v hP
    obtain ⟨o3, ho3⟩ := W.there _ _ st3
    have sim3 := sim2.turn hz2 (fun b q hb e => hk3 b q (by simpa using hb) e) ho3
    refine W.go _ _ target v _ _ st3 ?_
    obtain ⟨ρ3, wa, wb⟩ := hstep i d1 ρ2 c2 hd1 hJ
    refine wa A _ _ Z2 ad2 c2 _ v _ ok.hd sim3 (Rep.mono rv z2.le) fun h4 tk4 sim4 => ?_
    refine wpAny_mono (wb.go A _ _ Z2 ad2 _ ok sim4) (fun f s5 ⟨Z5, ad5, ρ5, c5, fl, z5, sim5, hf, hK⟩ => ?_) fun _ _ e => e
    have zz : ZStep B Z2 Z5 s2 s5 := ⟨z5.le, fun a ha hb => z5.new a ha fun e => by
      by_cases hai : a = I
      · subst hai; rw [Zm.add_self] at e; cases e
      · rw [Zm.add_other _ _ hai] at e; exact hb e, z5.os, z5.gs⟩
    have hz5 : Z5 I = none := z5.new I hz2 (by rw [Zm.add_self]; exact fun e => by cases e)
    have hst5 : St (i + 1) s5.heap := W.walks.frame _ _ _ st3 fun b hb q e => by
      rcases W.foot b hb with rfl | ⟨q', hq'⟩
      · rw [ho3] at e; cases e; exact sim5.bin _ _ (Zm.add_self ..)
      · have a1 := sim5.zin b q' (z5.le _ _ (z2.le _ _ hq'))
        have a2 := sim3.zin b q' (z2.le _ _ hq')
        rw [a2] at e; cases e; exact a1
    have again : (∃ ρ4, Sub ρ4 ρ5 ∧ J (i + 1) ρ4 c5) → ∃ m, m < items.length + 1 - i ∧ ∃ i o Z2 ad ρ2 c2, m = items.length + 1 - i ∧ i ≤ items.length ∧ ZStep B Z1 Z2 s1 s5 ∧ Z2 I = none ∧ SimA g env (B.add I o) Z2 ad ρ2 c2 s5.heap ∧ St i s5.heap ∧ J i ρ2 c2 := fun ⟨ρ4, hsb, hJ4⟩ =>
      ⟨items.length + 1 - (i + 1), by omega, i + 1, o3, Z5, ad5, ρ4, c5, rfl, hlt, z2.trans zz, hz5, sim5.weaken hsb, hst5, hJ4⟩
    have out : ∀ {f : Flow} {fl : Fl}, FlRep g Z5 f fl → K fl ρ5 c5 → Post g env B Z K s f s5 := fun hf hK => ⟨Z5, ad5, ρ5, c5, _, (ZStep.ext x1 sim.bin (s' := s1)).trans (z2.trans zz), sim5.lessB (leB _), hf, hK⟩
    cases f <;> cases fl <;> first | exact hf.elim | exact again hK | exact out (f := .next) (fl := .next) trivial hK | exact out (f := .ret _) hf hK
  · have hin : i = items.length := by omega
    subst hin
    refine W.walks.done s2 _ _ st2 fun h3 tk3 hk3 => wpAny_execs_nil ?_
    have sim3 : SimA g env B Z2 ad2 ρ2 c2 h3 := sim2.leave hz2 hBI fun b q hb e => hk3 b q (by simpa using hb) e
    exact ⟨Z2, ad2, ρ2, c2, .next, ((ZStep.ext x1 sim.bin (s' := s1)).trans z2).to, sim3, trivial, hdone _ _ hJ⟩

/-- while test: body; J n: what holds when at most n turns are left -/
theorem WS1.whileDo {test : Expr} {body : List Stmt} (J : Nat → Rho → Int → Prop) (n0 : Nat) (h0 : ∃ ρ0, Sub ρ0 ρ ∧ J n0 ρ0 c)
    (hstep : ∀ n ρ1 c1, J n ρ1 c1 → ∃ b c2, WT g k env ρ1 c1 test b c2 ∧ (b = true → WS g k env ρ1 c2 body (fun fl ρ3 c3 => match fl with
      | .next | .cont => ∃ m ρ4, m < n ∧ Sub ρ4 ρ3 ∧ J m ρ4 c3
      | .brk => K .next ρ3 c3
      | .ret d => K (.ret d) ρ3 c3)) ∧ (b = false → K .next ρ1 c2)) : WS1 g k env ρ c (.While test body [] p) K := .mk fun A E B Z ad s ok sim => by
  refine wpAny_While ?_
  obtain ⟨ρ0, hsub, hJ0⟩ := h0
  refine codeAny_whileLoop (fun n s' => ∃ Z2 ad ρ2 c2, ZStep B Z Z2 s s' ∧ SimA g env B Z2 ad ρ2 c2 s'.heap ∧ J n ρ2 c2) ?_ n0 ⟨Z, ad, ρ0, c, .refl, sim.weaken hsub, hJ0⟩
  rintro n s2 ⟨Z2, ad2, ρ2, c2, z2, sim2, hJ⟩
  obtain ⟨b, c3, ht, hb, hf⟩ := hstep n ρ2 c2 hJ
  refine wpAny_mono (ht.go A _ B Z2 ad2 s2 ok sim2) (fun r s3 ⟨hr, Z3, x3⟩ => ?_) fun _ _ e => e
  subst hr
  have sim3 := sim2.ext x3
  have z3 := z2.trans (.ext x3 sim2.bin (s' := s3))
  cases r with
  | false => exact wpAny_execs_nil ⟨Z3, ad2, ρ2, c3, .next, z3, sim3, trivial, hf rfl⟩
  | true =>
    simp only [if_true]
    refine wpAny_mono ((hb rfl).go A _ B Z3 ad2 s3 ok sim3) (fun f s5 ⟨Z5, ad5, ρ5, c5, fl, z5, sim5, hfl, hK⟩ => ?_) fun _ _ e => e
    have again : (∃ m ρ4, m < n ∧ Sub ρ4 ρ5 ∧ J m ρ4 c5) → ∃ m, m < n ∧ ∃ Z2 ad ρ2 c2, ZStep B Z Z2 s s5 ∧ SimA g env B Z2 ad ρ2 c2 s5.heap ∧ J m ρ2 c2 := fun ⟨m, ρ4, hm, hsb, hJ4⟩ => ⟨m, hm, Z5, ad5, ρ4, c5, z3.trans z5, sim5.weaken hsb, hJ4⟩
    have out : ∀ {f : Flow} {fl : Fl}, FlRep g Z5 f fl → K fl ρ5 c5 → Post g env B Z K s f s5 := fun hf hK => ⟨Z5, ad5, ρ5, c5, _, z3.trans z5, sim5, hf, hK⟩
    cases f <;> cases fl <;> first | exact hfl.elim | exact again hK | exact out (f := .next) (fl := .next) trivial hK | exact out (f := .ret _) hfl hK
end Mine
end

section
open PySem PySem.W PyProof.Rows
set_option linter.unusedVariables false
set_option maxRecDepth 100000
namespace Mine
variable {g : Cx} {k : Nat} {env : Env} {B Z Z' Z'' : Zm} {ad : Str → Addr} {ρ : Rho} {c c' c'' c1 c2 c3 : Int} {h h' h'' : Heap} {e l r : Expr} {d d1 d2 : D} {p p1 p2 p3 p4 p5 : Pos} {mg mb : Str → Option Value}
variable {K K' : Fl → Rho → Int → Prop} {ss : List Stmt} {st : Stmt}

/-! list comprehensions -/
structure CompCx (env : Env) (scope : Scope) (cl : List (Str × Addr)) (x : Str) (ρ ρc : Rho) : Prop where
  clos : closureFor scope env = pure cl
  kind : scope.kind = .function
  cell : ∀ y ∈ scope.names, y.2 ≠ .cell
  names : ∀ y ∈ scope.names, y.2 = .local → scope.names.lookup y.1 = some .local
  hx : scope.names.lookup x = some .local
  sub : ∀ n c, cl.lookup n = some c → env.cells.lookup n = some c
  cap : ∀ y lv, ρc.lookup y = some lv → ρ.lookup y = some lv ∧ env.kindOf y ≠ some .local ∧ y ≠ x ∧ ((relabel scope env).names.lookup y = some .cell ∨ (relabel scope env).names.lookup y = some .free) ∧ ∀ q, env.cells.lookup y = some q → cl.lookup y = some q

theorem SimA.comp {scope : Scope} {cl : List (Str × Addr)} {x : Str} {ρc : Rho} {C : Addr} {m : Str → Option Value} {v : Value} (sim : SimA g env B Z ad ρ c h) (W : CompCx env scope cl x ρ ρc) (hn : h.Ns C m) (hm : m x = some v) (hv : g.Rep Z v d)
    (zC : Z C = none) (kC : C ≠ g.κ) (cC : ∀ n q, env.cells.lookup n = some q → q ≠ C) (oC : ∀ y d, ρ.lookup y = some (.o d) → ad y ≠ C) : SimA g (compEnvC scope cl C env) (fun _ => none) Z ad ((x, .f d) :: ρc) c h where
  fn := W.kind
  gl := sim.gl
  bl := sim.bl
  zin := sim.zin
  bin := fun a o e => by cases e
  z0 := sim.z0
  ns := ⟨m, hn⟩
  cells := fun n q hq => sim.cells n q (W.sub n q hq)
  vars := fun y lv hy => by
    rcases lookup_put hy with ⟨rfl, rfl⟩ | ⟨hne, hy⟩
    · exact ⟨v, .inl ⟨lookup_relabel_local W.hx, m, hn, hm⟩, hv⟩
    · obtain ⟨hr, hk, _, hkc, hq⟩ := W.cap y lv hy
      obtain ⟨u, hl, hu⟩ := sim.vars y lv hr
      refine ⟨u, ?_, hu⟩
      rcases hl with ⟨hk', _⟩ | ⟨_, q, hc, hcell⟩
      · exact absurd hk' hk
      · exact .inr ⟨hkc, q, hq q hc, hcell⟩
  inj := fun y z d1 d2 hy hz e => by
    rcases lookup_put hy with ⟨_, hf⟩ | ⟨_, hy⟩
    · cases hf
    · rcases lookup_put hz with ⟨_, hf⟩ | ⟨_, hz⟩
      · cases hf
      · exact sim.inj y z d1 d2 (W.cap _ _ hy).1 (W.cap _ _ hz).1 e
  apartL := fun n q hq => cC n q (W.sub n q hq)
  apartC := fun n n' q h1 h2 => sim.apartC n n' q (W.sub _ _ h1) (W.sub _ _ h2)
  privL := ⟨zC, rfl, kC⟩
  privC := fun n q hq => ⟨(sim.privC n q (W.sub n q hq)).1, rfl, (sim.privC n q (W.sub n q hq)).2.2⟩
  privO := fun y d1 hy => by
    rcases lookup_put hy with ⟨_, hf⟩ | ⟨_, hy⟩
    · cases hf
    · have pr := sim.privO y d1 (W.cap _ _ hy).1
      exact ⟨pr.1, rfl, pr.2.2.1, oC y d1 (W.cap _ _ hy).1, fun n q hq => pr.2.2.2.2 n q (W.sub n q hq)⟩
  clk := sim.clk
  kap := ⟨sim.kap.1, rfl⟩

structure WTests (g : Cx) (k : Nat) (env : Env) (ρ : Rho) (c : Int) (ifs : List Expr) (b : Bool) : Prop where
  go : ∀ A E B Z ad s, OkA k A → SimA g env B Z ad ρ c s.heap →
    wpAny g.M A (forIn ifs true fun c r => if r = true then do let ok ← isTrue c env (eval c env); pure (ForInStep.yield ok) else pure (ForInStep.yield r)) (fun r s' => r = b ∧ ∃ Z', Ext g Z Z' s s' c) E s
theorem WTests.nil : WTests g k env ρ c [] true := .mk fun A E B Z ad s ok sim => wpAny_tests_nil ⟨rfl, Z, sim.refl⟩
theorem WTests.one {b : Bool} (h : WT g k env ρ c e b c) : WTests g k env ρ c [e] b := .mk fun A E B Z ad s ok sim => wpAny_tests_one (h.go A E B Z ad s ok sim)

theorem comp_block {elt iter : Expr} {x : Str} {px pos : Pos} {ifs : List Expr} {scope : Scope} {cl : List (Str × Addr)} {ρc : Rho} {α : Type} {enc : α → D} {items : List α} {A : Around} {E : Value → Shared → Prop} {s1 s2 : Shared} {I : Addr}
    {P : Nat → Value → Prop} {St : Nat → Heap → Prop} {fp : List Addr} {RR : Value → Addr → Result → Shared → Prop} (W : CompCx env scope cl x ρ ρc) (ok : OkA k A) (sim : SimA g env B Z ad ρ c s1.heap) (V : WalkAt g A I Z (items.map enc) P St fp) (st : St 0 s2.heap) (hI : s1.heap.get? I = none)
    (keep2 : ∀ b o, s1.heap.get? b = some o → s2.heap.get? b = some o) (hos : s2.os = s1.os) (hgs : s2.gens = s1.gens) (hsz : items.length ≤ sizeLine) (p : α → Bool) (F : α → D)
    (htest : ∀ C, ∀ d ∈ items, WTests g k (compEnvC scope cl C env) ((x, .f (enc d)) :: ρc) c ifs (p d))
    (helt : ∀ C, ∀ d ∈ items, p d = true → WE g k (compEnvC scope cl C env) ((x, .f (enc d)) :: ρc) c elt (F d) c)
    (hRR : ∀ D C s' m' Z2 vs, s1.heap.get? D = none → s1.heap.get? C = none → D ≠ C → s'.heap.Ns C m' → Ext g Z Z2 s1 s' c → Z2 D = none → Z2 C = none → PList s'.heap D vs → RepL g Z2 vs ((items.filter p).map F) → RR (.ref D) C (.ok .next) s') :
    wpAny g.M A (newList []) (fun acc s₃ => wpAny g.M A (newFunctionEnv scope env.globals cl [] env.qual none .none (some env)) (fun cenv s₄ =>
      codeAny g.M A (.compStart (.ListComp elt [⟨.Name x px, iter, ifs, 0⟩] scope pos) 0 (.ref I) acc { cenv with scope := relabel scope env }) (RR acc cenv.locals) s₄) E s₃) E s2 := by
  have hIs2 : I < s2.heap.objs.size := let ⟨o, e⟩ := V.there _ _ st; Heap.lt_size e
  refine wpAny_newObj_type (wpAny_newFunctionEnv W.cell (by intro y hy; simp at hy) (fun h₁ hns₁ hsb₁ => ?_) W.kind)
  dsimp only at hns₁ hsb₁ ⊢
  generalize hH2 : s2.heap.push { cls := .type "list", dict := none, data := .seq ([] : List Value).toArray } = H2 at hns₁ hsb₁ ⊢
  have hC : H2.objs.size = s2.heap.objs.size + 1 := by rw [← hH2, Heap.size_push]
  generalize hCC : H2.objs.size = C at *
  generalize hDD : s2.heap.objs.size = D at *
  have hDC : D ≠ C := by rw [hC]; exact Nat.ne_of_lt (Nat.lt_succ_self _)
  have old2 : ∀ b o, s2.heap.get? b = some o → h₁.get? b = some o := fun b o e => hsb₁.extBut b o (Nat.ne_of_lt (by rw [hC]; exact Nat.lt_succ_of_lt (hDD ▸ Heap.lt_size e))) (Heap.get?_push_of_some _ (hH2 ▸ Heap.get?_push_of_some _ e))
  have old : ∀ b o, s1.heap.get? b = some o → h₁.get? b = some o := fun b o e => old2 b o (keep2 b o e)
  have lt1 : ∀ b o, s1.heap.get? b = some o → b < D := fun b o e => hDD ▸ Heap.lt_size (keep2 b o e)
  have hDf : s1.heap.get? D = none := by
    cases e : s1.heap.get? D with
    | none => rfl
    | some o => exact absurd (lt1 _ _ e) (Nat.lt_irrefl _)
  have hCf : s1.heap.get? C = none := by
    cases e : s1.heap.get? C with
    | none => rfl
    | some o => exact absurd (lt1 _ _ e) (by rw [hC]; exact Nat.not_lt.mpr (Nat.le_succ _))
  have zn : ∀ {a}, s1.heap.get? a = none → Z a = none := fun {a} ha => by
    cases e : Z a with
    | none => rfl
    | some o => have := sim.zin a o e; rw [ha] at this; cases this
  have hacc : PList h₁ D [] := ⟨0, hsb₁.extBut _ _ hDC (Heap.get?_push_of_some _ (by rw [← hH2, ← hDD]; exact Heap.get?_push_size _ rfl))⟩
  have hst₁ : St 0 h₁ := V.walks.frame _ _ _ st fun b _ o e => old2 b o e
  have hIC : I ≠ C := Nat.ne_of_lt (by rw [hC]; exact Nat.lt_succ_of_lt hIs2)
  have hID : I ≠ D := Nat.ne_of_lt hIs2
  obtain ⟨_, kC, lC, cC, oC⟩ := fresh_apart sim hCf
  have x0 : Ext g Z Z s1 { s1 with heap := h₁ } c := .grow sim.zin sim.clk old
  have loop : ∀ s₃ : Shared, s₃.heap = h₁ → s₃.os = s1.os → s₃.gens = s1.gens →
      codeAny g.M A (.compLoop (.ListComp elt [⟨.Name x px, iter, ifs, 0⟩] scope pos) 0 (.ref I) (.ref D) (compEnvC scope cl C env)) (RR (.ref D) C) s₃ := by
    rintro s₃ rfl ho3 hg3
    refine codeAny_compLoop_tests
      (fun n s' => ∃ i Z2 vs m, n = items.length + 1 - i ∧ i ≤ items.length ∧ Ext g Z Z2 s1 s' c ∧ Z2 I = none ∧ Z2 D = none ∧ Z2 C = none ∧ St i s'.heap ∧ PList s'.heap D vs ∧ RepL g Z2 vs (((items.take i).filter p).map F) ∧ s'.heap.Ns C m) ?_ (items.length + 1)
      ⟨0, Z, [], _, rfl, Nat.zero_le _, x0.to rfl ho3 hg3, zn hI, zn hDf, zn hCf, hst₁, hacc, .nil, hns₁⟩
    rintro n s' ⟨i, Z2, vs, m, rfl, hi, x2, zI, zD, zC, st2, acc2, rl2, ns2⟩
    by_cases hlt : i < items.length
    · refine V.walks.item i s' _ _ (by rw [List.length_map]; exact hlt) st2 fun v h3 tk3 hP st3 hk3 => ?_
      obtain ⟨dd, hd, rv⟩ := V.item i v hP
      rw [List.getElem?_map, Option.map_eq_some_iff] at hd
      obtain ⟨d, hd, rfl⟩ := hd
      have hmem : d ∈ items := List.mem_of_getElem? hd
      have ns3 : h3.Ns C m := ns2.at' fun o e => hk3 _ o (by simpa using Ne.symm hIC) e
      refine wpAny_assign_Name (wpAny_storeName_local (lookup_relabel_local W.hx) ns3 (fun h4 hn4 hs4 => ?_) (by simp [compEnvC, relabel, W.kind]))
      have e4 : ∀ b o, b ≠ I → b ≠ C → s'.heap.get? b = some o → h4.get? b = some o := fun b o hb hc e => (hs4.2 b hc).trans (hk3 b o (by simpa using hb) e)
      have hIn : ∀ b, (∃ o, s1.heap.get? b = some o) → b ≠ I ∧ b ≠ C ∧ b ≠ D := fun b ⟨o, e⟩ => ⟨fun q => (by rw [q, hI] at e; cases e), fun q => (by rw [q, hCf] at e; cases e), fun q => (by rw [q, hDf] at e; cases e)⟩
      have hκ := hIn _ sim.clk.there
      have x4 : ∀ {tk : Nat}, Ext g Z Z2 s1 { s' with heap := h4, toks := tk } c := fun {tk} => .of x2.le (fun b o e => e4 b o (fun q => by rw [q, zI] at e; cases e) (fun q => by rw [q, zC] at e; cases e) (x2.zin b o e)) x2.new (fun b o hb e => e4 b o (hIn b ⟨o, e⟩).1 (hIn b ⟨o, e⟩).2.1 (x2.keep b o hb e)) (x2.clk.mono (.refl _) fun o e => e4 _ o hκ.1 hκ.2.1 e) x2.os x2.gs
      have acc4 : PList h4 D vs := acc2.at fun o e => e4 _ o (Ne.symm hID) hDC e
      have st4 : St (i + 1) h4 := V.walks.frame _ _ _ st3 fun b hb o e => (hs4.2 b (by
        rcases V.foot b hb with rfl | ⟨q, hq⟩
        · exact hIC
        · rintro rfl; rw [zn hCf] at hq; cases hq)).trans e
      have sim4 := (sim.ext (x4 (tk := 0))).comp W hn4 (by simp) (Rep.mono rv x2.le) zC kC (fun n q hq e => cC n q hq e.symm) (fun y d hy e => oC y d hy e.symm)
      refine wpAny_mono ((htest C d hmem).go A _ _ Z2 ad _ ok sim4) (fun ok' s5 ⟨hb, Z5, x5⟩ => ?_) fun _ _ e => e
      subst hb
      have th : ∀ {a}, (∃ o, h4.get? a = some o) → Z2 a = none → Z5 a = none := fun ho hz => x5.new _ hz ho
      have thI : ∃ o, h4.get? I = some o := by obtain ⟨o, e⟩ := V.there _ _ st4; exact ⟨o, e⟩
      have thD : ∃ o, h4.get? D = some o := ⟨_, acc4.choose_spec⟩
      have thC : ∃ o, h4.get? C = some o := by obtain ⟨o, _, _, e, _⟩ := hn4; exact ⟨o, e⟩
      have kD : D ≠ g.κ := Ne.symm hκ.2.2
      have kI : I ≠ g.κ := Ne.symm hκ.1
      have frame5 : ∀ {s5 : Shared} {Z5 : Zm} {tk : Nat}, Ext g Z2 Z5 { s' with heap := h4, toks := tk } s5 c → St (i + 1) s5.heap ∧ PList s5.heap D vs ∧ (∃ m, s5.heap.Ns C m) := fun {s5 Z5 tk} x5 => by
        refine ⟨V.walks.frame _ _ _ st4 fun b hb o e => ?_, acc4.at fun o e => x5.keep _ o kD e, _, hn4.at' fun o e => x5.keep _ o kC e⟩
        refine x5.keep b o ?_ e
        rcases V.foot b hb with rfl | ⟨q, hq⟩
        · exact kI
        · rintro rfl; rw [sim.kap.1] at hq; cases hq
      have tk : items.take (i + 1) = items.take i ++ [d] := by rw [List.take_add_one, hd]; rfl
      by_cases hp : p d = true
      · rw [if_pos hp]
        have sim5 := sim4.ext x5.from
        refine wpAny_mono ((helt C d hmem hp).go A _ _ Z5 ad s5 ok sim5) (fun y s6 ⟨Z6, x6, r6⟩ => ?_) fun _ _ e => e
        have x46 := x5.trans x6
        obtain ⟨st6, acc6, m6, ns6⟩ := frame5 x46
        have hlen : vs.length ≤ sizeLine := by
          have h1 := rl2.length
          rw [List.length_map] at h1
          have h2 := List.length_filter_le p (items.take i)
          have h3 : (items.take i).length ≤ items.length := by rw [List.length_take]; omega
          omega
        refine wpAny_list_append_plain (items := vs.toArray) acc6 (fun h7 hl7 hs7 => ?_) (by simpa using hlen)
        have x26 := x4.trans x46
        have z6 : Z6 I = none ∧ Z6 D = none ∧ Z6 C = none := ⟨x46.new _ zI thI, x46.new _ zD thD, x46.new _ zC thC⟩
        refine ⟨items.length + 1 - (i + 1), by omega, i + 1, Z6, vs ++ [y], m6, rfl, hlt, .of x26.le (fun b o e => (hs7.2 b fun q => by rw [q, z6.2.1] at e; cases e).trans (x26.zin b o e)) x26.new (fun b o hb e => (hs7.2 b (hIn b ⟨o, e⟩).2.2).trans (x26.keep b o hb e)) (x26.clk.mono (.refl _) fun o e => (hs7.2 _ hκ.2.2).trans e) x26.os x26.gs, z6.1, z6.2.1, z6.2.2, ?_, ?_, ?_, ?_⟩
        · refine V.walks.frame _ _ _ st6 fun b hb o e => (hs7.2 b ?_).trans e
          rcases V.foot b hb with rfl | ⟨q, hq⟩
          · exact hID
          · rintro rfl; rw [zn hDf] at hq; cases hq
        · obtain ⟨n, e⟩ := hl7; exact ⟨n, by simpa using e⟩
        · rw [tk, List.filter_append, List.map_append]
          exact (RepL.mono rl2 x46.le).append (by simp only [List.filter_cons, hp, if_true, List.filter_nil, List.map_cons, List.map_nil]; exact .cons r6 .nil)
        · exact ns6.sameBut hs7 (Ne.symm hDC)
      · rw [if_neg hp]
        obtain ⟨st5, acc5, m5, ns5⟩ := frame5 x5
        refine ⟨items.length + 1 - (i + 1), by omega, i + 1, Z5, vs, m5, rfl, hlt, x4.trans x5, th thI zI, th thD zD, th thC zC, st5, acc5, ?_, ns5⟩
        rw [tk, List.filter_append]
        simpa [hp] using RepL.mono rl2 x5.le
    · have hin : i = items.length := by omega
      subst hin
      refine V.walks.done s' _ _ (by rw [List.length_map]; exact st2) fun h3 tk3 hk3 => ?_
      have e3 : ∀ b o, b ≠ I → s'.heap.get? b = some o → h3.get? b = some o := fun b o hb e => hk3 b o (by simpa using hb) e
      have hIn : ∀ b, (∃ o, s1.heap.get? b = some o) → b ≠ I := fun b ⟨o, e⟩ q => by rw [q, hI] at e; cases e
      refine hRR D C _ m Z2 vs hDf hCf hDC (ns2.at' fun o e => e3 _ o (Ne.symm hIC) e) (.of x2.le (fun b o e => e3 b o (fun q => by rw [q, zI] at e; cases e) (x2.zin b o e)) x2.new (fun b o hb e => e3 b o (hIn b ⟨o, e⟩) (x2.keep b o hb e)) (x2.clk.mono (.refl _) fun o e => e3 _ o (hIn _ sim.clk.there) e) x2.os x2.gs) zD zC (acc2.at fun o e => e3 _ o (Ne.symm hID) e) ?_
      rw [List.take_length] at rl2
      exact rl2
  exact codeAny_compStart_list (loop _ rfl hos hgs) (V.walks.self 0 _ _ _ hst₁ (loop _ rfl hos hgs))

section
variable {elt iter : Expr} {x : Str} {px pos : Pos} {ifs : List Expr} {scope : Scope} {cl : List (Str × Addr)} {ρc : Rho} {α : Type} {enc : α → D} {items : List α}
theorem WO.comp (he : WE g k env ρ c iter d c1) (hI : Iters d (items.map enc)) (W : CompCx env scope cl x ρ ρc) (p : α → Bool) (F : α → D) (hsz : items.length ≤ sizeLine)
    (htest : ∀ C, ∀ d ∈ items, WTests g k (compEnvC scope cl C env) ((x, .f (enc d)) :: ρc) c1 ifs (p d))
    (helt : ∀ C, ∀ d ∈ items, p d = true → WE g k (compEnvC scope cl C env) ((x, .f (enc d)) :: ρc) c1 elt (F d) c1)
    (hs : ∀ x, foldedSetIterable iter env x = pure x := by intro _; rfl) : WO g k env ρ c (.ListComp elt [⟨.Name x px, iter, ifs, 0⟩] scope pos) (.list ((items.filter p).map F)) c1 := .mk fun A E B Z ad s ok sim => by
  rw [eval_ListComp]
  refine wpAny_comprehension_free (use := none) rfl hs W.clos W.kind W.names (wpAny_mono (he.go A E B Z ad s ok sim) (fun v s1 ⟨Z1, x1, r1⟩ => ?_) fun _ _ e => e)
  refine iterStart hI r1 x1.zin ok.hd fun o P St fp hof V st => ?_
  refine comp_block (RR := fun acc C => compPost _ A E none _ acc C) (s1 := s1) W ok (sim.ext x1) V st (fresh_none _) (fun b q e => Heap.get?_push_of_some _ e) rfl rfl hsz p F htest helt ?_
  intro D C s' m' Z2 vs hD hC hDC ns x2 zD zC pl rl
  refine ⟨m', ns, fun h' hs' => ⟨Z2, D, rfl, x1.trans (.of x2.le (fun b o e => (hs'.2 b fun q => by rw [q, zC] at e; cases e).trans (x2.zin b o e)) x2.new (fun b o hb e => (hs'.2 b fun q => by rw [q, hC] at e; cases e).trans (x2.keep b o hb e)) (x2.clk.mono (.refl _) fun o e => (hs'.2 _ ?_).trans e) x2.os x2.gs), x1.back hD, zD, vs, pl.at fun o e => (hs'.2 _ hDC).trans e, rl⟩⟩
  rintro q
  obtain ⟨o, e⟩ := x1.clk.there
  rw [q, hC] at e; cases e

/-- y = [comprehension], y plain: the machine keeps the list's name till the store -/
theorem WS1.assignComp {y : Str} {py : Pos} (hsw : swapsWith (.ListComp elt [⟨.Name x px, iter, ifs, 0⟩] scope pos) (some (.Name y py)) p1.line env = pure true) (hst : Sto env y)
    (he : WE g k env ρ c iter d c1) (hI : Iters d (items.map enc)) (W : CompCx env scope cl x ρ ρc) (p : α → Bool) (F : α → D) (hsz : items.length ≤ sizeLine)
    (htest : ∀ C, ∀ d ∈ items, WTests g k (compEnvC scope cl C env) ((x, .f (enc d)) :: ρc) c1 ifs (p d))
    (helt : ∀ C, ∀ d ∈ items, p d = true → WE g k (compEnvC scope cl C env) ((x, .f (enc d)) :: ρc) c1 elt (F d) c1)
    (hk : K .next ((y, .o (.list ((items.filter p).map F))) :: ρ) c1)
    (hs : ∀ x, foldedSetIterable iter env x = pure x := by intro _; rfl) : WS1 g k env ρ c (.Assign [.Name y py] (.ListComp elt [⟨.Name x px, iter, ifs, 0⟩] scope pos) p1) K := .mk fun A E B Z ad s ok sim => by
  rw [exec_Assign_Name_used _ _ _ _ hsw]
  refine wpAny_bind (wpAny_standAt (wpAny_bind ?_))
  show wpAny _ A (do let _ ← comprehension (.ListComp elt [⟨.Name x px, iter, ifs, 0⟩] scope pos) scope env _ (newList []) false (eval iter env) (some (PySem.assign (.Name y py) env))) _ _ s
  refine wpAny_bind (wpAny_mono (wpAny_comprehension_free (use := some (PySem.assign (.Name y py) env)) (Q := fun _ s' => Post g env B Z K s .next s') rfl hs W.clos W.kind W.names
    (wpAny_mono (he.go A E B Z ad s ok sim) (fun v s1 ⟨Z1, x1, r1⟩ => ?_) fun _ _ e => e)) (fun _ s' hq => wpAny_pure (wpAny_pure hq)) fun _ _ e => e)
  refine iterStart hI r1 x1.zin ok.hd fun o P St fp hof V st => ?_
  have sim1 := sim.ext x1
  refine comp_block (RR := fun acc C => compPost _ A E (some (PySem.assign (.Name y py) env)) _ acc C) (s1 := s1) W ok sim1 V st (fresh_none _) (fun b q e => Heap.get?_push_of_some _ e) rfl rfl hsz p F htest helt ?_
  intro D C s' m' Z2 vs hD hC hDC ns x2 zD zC pl rl
  obtain ⟨f1, f2, f3, f4, f5⟩ := fresh_apart sim1 hD
  obtain ⟨c1, c2, c3, c4, c5⟩ := fresh_apart sim1 hC
  refine wpAny_assign_Name (wp_store (sim1.ext x2) hst fun q h' tk S => ?_)
  have hqC : q ≠ C := by
    rcases S.here with rfl | ⟨n, hn⟩
    · exact Ne.symm c3
    · exact Ne.symm (c4 n q hn)
  refine ⟨m', ns.sameBut S.same (Ne.symm hqC), fun h'' hs'' => ?_⟩
  have sim2 := (sim1.ext x2).storedO (hb := s.heap) S (d := .list ((items.filter p).map F)) ⟨vs, pl, rl⟩ zD f1 f2 f3 f4 (fun y d' _ hy => f5 y d' hy)
  have e2 : ∀ b o, b ≠ C → h'.get? b = some o → h''.get? b = some o := fun b o hb e => (hs''.2 b hb).trans e
  show Post g env B Z K s .next _
  refine ⟨Z2, fun z => if z = y then D else ad z, _, _, .next, .ext (x1.trans x2) sim.bin, ?_, trivial, hk⟩
  -- what the comprehension's frame held goes
  have zi : Z2.In h'' := fun a o e => e2 a o (fun q => by rw [q, zC] at e; cases e) (sim2.zin a o e)
  refine { sim2 with
    zin := zi
    bin := fun a o e => e2 a o (fun q => by rw [q, c1] at e; cases e) (sim2.bin a o e)
    ns := let ⟨m, hm⟩ := sim2.ns; ⟨m, hm.at' fun q e => e2 _ q (Ne.symm c3) e⟩
    cells := fun n cc hc => let ⟨v, q, e, hd⟩ := sim2.cells n cc hc; ⟨v, q, e2 _ q (Ne.symm (c4 n cc hc)) e, hd⟩
    vars := fun z lv hz => ?_
    clk := sim2.clk.mono (.refl _) fun q e => e2 _ q (Ne.symm c2) e }
  obtain ⟨v, hl, hr⟩ := sim2.vars z lv hz
  refine ⟨v, hl.at (fun q e => e2 _ q (Ne.symm c3) e) fun n cc q hc e => e2 _ q (Ne.symm (c4 n cc hc)) e, ?_⟩
  cases lv with
  | f d1 => exact hr
  | o d1 =>
    refine ⟨hr.1, Own.frame hr.2 (fun q e => e2 _ q ?_ e) (.refl _) zi⟩
    by_cases hzy : z = y
    · rw [if_pos hzy]; exact hDC
    · rw [if_neg hzy]
      rcases lookup_put hz with ⟨e, _⟩ | ⟨_, hz⟩
      · exact absurd e hzy
      · exact Ne.symm (c5 z d1 hz)
end
end Mine
end

section
open PySem PySem.W PyProof.Rows
set_option linter.unusedVariables false
set_option maxRecDepth 100000
namespace Mine
variable {g : Cx} {k : Nat} {env : Env} {B Z Z' Z'' : Zm} {ad : Str → Addr} {ρ : Rho} {c c' c'' c1 c2 c3 : Int} {h h' h'' : Heap} {e l r : Expr} {d d1 d2 : D} {p p1 p2 p3 p4 p5 : Pos} {mg mb : Str → Option Value}
variable {K K' : Fl → Rho → Int → Prop} {ss : List Stmt} {st : Stmt}

/-! a new key in a dict of one's own -/
theorem stored_kv {K : Type} [DecidableEq K] {x : K} {v : Value} {kvs : List (K × Value)} {es : List (K × D)} (r : RepKV g Z kvs es) (hn : es.lookup x = none) (rv : g.Rep Z v d) : RepKV g Z (PySem.stored kvs x v) (es ++ [(x, d)]) := by
  have hv := (look_kv x r).2 hn
  have hf : kvs.any (fun kv => decide (kv.1 = x)) = false := by
    rw [valueAt, Option.map_eq_none_iff, List.find?_eq_none] at hv
    rw [List.any_eq_false]
    intro kv hkv
    have := hv kv hkv
    simpa using this
  unfold PySem.stored
  rw [hf]
  exact F2.append r (.cons ⟨rfl, rv⟩ .nil)
theorem stored_kt {x y : Str} {b : Addr} {v : Value} {xs : List (List Str × Addr × Value)} {es : List ((Str × Str) × D)} (r : RepKT g Z xs es) (hn : es.lookup (x, y) = none) (rv : g.Rep Z v d) : RepKT g Z (storedH xs [x, y] b v) (es ++ [((x, y), d)]) := by
  rw [storedH_new ((look_kt x y r).2 hn)]
  exact F2.append r (.cons ⟨rfl, rv⟩ .nil)

noncomputable def Put (dc di d dc' : D) : Prop :=
  (∃ (i : Int) (es : List (Int × D)), dc = .dI es ∧ di = .int i ∧ es.lookup i = none ∧ es.length ≤ sizeLine ∧ dc' = .dI (es ++ [(i, d)])) ∨
  (∃ (x : Str) (es : List (Str × D)), dc = .dS es ∧ di = .str x ∧ es.lookup x = none ∧ es.length ≤ sizeLine ∧ dc' = .dS (es ++ [(x, d)])) ∨
  (∃ (x y : Str) (es : List ((Str × Str) × D)), dc = .dT es ∧ di = .tup [.str x, .str y] ∧ es.lookup (x, y) = none ∧ es.length ≤ sizeLine ∧ dc' = .dT (es ++ [((x, y), d)]))

theorem tkey_of {v : Value} {x y : Str} (r : g.Rep Z v (.tup [.str x, .str y])) (i : Z.In h) : ∃ b, v = .ref b ∧ Z.Says (fun h => TKey g h [x, y] b) := by
  obtain ⟨b, rfl, hb⟩ := key_tup r i
  refine ⟨b, rfl, fun h' i' => ⟨hb h' i', ?_⟩⟩
  obtain ⟨a, e, ow, _⟩ := r.own i'
  cases e
  obtain ⟨vs, pl, _⟩ := ow
  exact ⟨vs, pl⟩

theorem setItem_own {dc di dc' : D} (hp : Put dc di d dc') {A : Around} {E : Value → Shared → Prop} {s : Shared} {a : Addr} {vi v : Value} {Q : Unit → Shared → Prop} (ok : OkA k A) (zi : Z.In s.heap) (hza : Z a = none) (ow : g.Own s.heap Z a dc) (ri : g.Rep Z vi di) (rv : g.Rep Z v d)
    (hq : ∀ h' tk, Heap.SameBut a s.heap h' → g.Own h' Z a dc' → Q () { s with heap := h', toks := tk }) : wpAny g.M A (setItem (.ref a) vi v) Q E s := by
  rcases hp with ⟨i, es, rfl, rfl, hn, hsz, rfl⟩ | ⟨x, es, rfl, rfl, hn, hsz, rfl⟩ | ⟨x, y, es, rfl, rfl, hn, hsz, rfl⟩
  · obtain ⟨hs, kvs, dd, rk⟩ := ow
    exact wpAny_setItem_pairs (key_int ri) dd (fun h' dd' same => hq h' _ same ⟨hs, _, dd', stored_kv rk hn rv⟩) (by rw [rk.length]; exact hsz)
  · obtain ⟨hs, kvs, dd, rk⟩ := ow
    exact wpAny_setItem_pairs (key_str ri) dd (fun h' dd' same => hq h' _ same ⟨hs, _, dd', stored_kv rk hn rv⟩) (by rw [rk.length]; exact hsz)
  · obtain ⟨hs, xs, dd, hsay, rk⟩ := ow
    obtain ⟨b, rfl, hb⟩ := tkey_of ri zi
    refine wpAny_setItem_heap (knd := tupleKind (strKind g.prog g.w)) (tupleKind_room_in1 (ok.cr 1 (by decide))) (hb _ zi).1 dd (fun h' dd' same => hq h' _ same ⟨hs, _, dd', fun q hq => ?_, stored_kt rk hn rv⟩) (by rw [rk.length]; exact hsz)
    rw [storedH_new ((look_kt x y rk).2 hn)] at hq
    rcases List.mem_append.mp hq with hq | hq
    · exact hsay q hq
    · rw [List.mem_singleton.mp hq]; exact hb

theorem WS1.put {x : Str} {dc di dc' : D} {i : Expr} (hx : ρ.lookup x = some (.o dc)) (he : WE g k env ρ c e d c1) (hi : WE g k env ρ c1 i di c2) (hp : Put dc di d dc') (hk : K .next ((x, .o dc') :: ρ) c2)
    (hs : swapsWith e (some (.Subscript (.Name x p1) i p2)) p.line env = pure false := by rfl) (hd : (x == ("__debug__" : Str)) = false := by decide) (hcd : (x == ("__classdict__" : Str)) = false := by decide) :
    WS1 g k env ρ c (.Assign [.Subscript (.Name x p1) i p2] e p) K := .mk fun A E B Z ad s ok sim => by
  refine wpAny_Assign_Subscript (wpAny_mono (he.go A E B Z ad s ok sim) (fun v s1 ⟨Z1, x1, r1⟩ => (sim.ext x1).ownName hx rfl (wpAny_mono (hi.go A E B Z1 ad s1 ok (sim.ext x1)) (fun vi s2 ⟨Z2, x2, r2⟩ => ?_) fun _ _ e => e) hd hcd) fun _ _ e => e) hs
  have x12 := x1.trans x2
  have sim2 := sim.ext x12
  obtain ⟨_, _, _, ow⟩ := sim2.vars x _ hx
  refine setItem_own hp ok x2.zin (sim2.privO x _ hx).1 ow r2 (Rep.mono r1 x2.le) fun h' tk same ow' => ⟨Z2, ad, _, c2, .next, .ext x12 sim.bin, sim2.mut hx same fun _ => ow', trivial, hk⟩

/-- rows.insert(i, e) -/
theorem WS1.insert {x : Str} {ds : List D} {n : Nat} {i : Expr} (hx : ρ.lookup x = some (.o (.list ds))) (hi : WE g k env ρ c i (.int n) c1) (he : WE g k env ρ c1 e d c2) (hn : n ≤ ds.length) (hsz : ds.length ≤ sizeLine)
    (hk : K .next ((x, .o (.list (ds.take n ++ [d] ++ ds.drop n))) :: ρ) c2)
    (hin : interactive env = false := by rfl) (hsw : swapsWith (.Call (.Attribute (.Name x p1) "insert" p2) [i, e] [] p3) Option.none p.line env = pure false := by rfl)
    (hbase : attributeBase (.Name x p1) "insert" env (eval (.Name x p1) env) = eval (.Name x p1) env := by rfl) (hline : (p2.endLine == p3.line) = true := by rfl)
    (htrees : backTo p3 (starEach [i, e] env) = [(false, eval i env), (false, eval e env)] := by rfl) (hd : (x == ("__debug__" : Str)) = false := by decide) (hcd : (x == ("__classdict__" : Str)) = false := by decide) :
    WS1 g k env ρ c (.Expr (.Call (.Attribute (.Name x p1) "insert" p2) [i, e] [] p3) p) K := .mk fun A E B Z ad s ok sim => by
  refine wpAny_Expr (wpAny_Call_method2_late hbase hline htrees (sim.ownName hx rfl ?_ hd hcd)) hin hsw
  obtain ⟨v, hl, rfl, vs, ⟨m, pl⟩, rl⟩ := sim.vars x _ hx
  refine ⟨"list", "list.insert", PySem.F.plainAttrs_list, PySem.F.slot_list_insert, PySem.F.type_list_insert, ⟨_, pl, rfl⟩, fun a e => by cases e; exact ⟨_, pl, rfl⟩, ?_⟩
  refine method_meets PySem.F.slot_list_insert PySem.F.entry_list_insert rfl (Calls.evalArgs_plain (Calls.spliced_cons (wpAny_mono (hi.go A E B Z ad s ok sim) (fun v s1 ⟨Z1, x1, r1⟩ => Calls.spliced_cons (wpAny_mono (he.go A E B Z1 ad s1 ok (sim.ext x1)) (fun v2 s2 ⟨Z2, x2, r2⟩ => Calls.spliced_nil ?_) fun _ _ e => e)) fun _ _ e => e)))
  obtain ⟨u, rfl⟩ : ∃ u, v = .int n u := rep_int r1
  have x12 := x1.trans x2
  have sim2 := sim.ext x12
  have pl2 := x12.keep _ _ (sim.privO x _ hx).2.2.1 pl
  have hlen : vs.length = ds.length := rl.length
  have hsl : sizeLine < 2 ^ 60 := by rw [sizeLine_eq]; omega
  refine ⟨rfl, ⟨_, pl2, rfl⟩, PySem.F.args_list_insert_3 _ _ _, ?_⟩
  have hm2 : vs.toArray.size ≤ sizeLine := by rw [List.size_toArray, hlen]; exact hsz
  have hm1 : ¬(!Builtin.List.listFitsIndex (n : Int)) = true := by
    simp only [Builtin.List.listFitsIndex, Bool.not_eq_true', Bool.not_eq_false, Bool.and_eq_true, decide_eq_true_eq]
    omega
  refine ⟨_, @PySem.AutoSeq1.list_insert_list_int_val_1 (ad x) vs.toArray m (n : Int) u v2 hm1 hm2, ?_⟩
  · refine ⟨pl2, Z2, ad, _, c2, .next, .ext x12 sim.bin, sim2.mut (d' := .list (ds.take n ++ [d] ++ ds.drop n)) hx (Heap.SameBut.update ..) (fun _ => ⟨vs.take n ++ [v2] ++ vs.drop n, PList.upd ⟨m, pl2⟩ _ ?_, ((F2.take (RepL.mono rl x12.le) n).append (.cons r2 .nil)).append (F2.drop (RepL.mono rl x12.le) n)⟩), trivial, hk⟩
    have h0 : ¬ ((n : Int) < 0) := by omega
    simp only [h0, if_false, Int.toNat_natCast, List.size_toArray]
    have : min n vs.length = n := by omega
    rw [this]
    apply Array.ext'
    simp
    rw [List.take_of_length_le (by simp)]

/-- l.index(e), ints -/
theorem WE.index {x : Str} {ns : List Int} {i : Int} (hx : ρ.lookup x = some (.o (.list (ns.map D.int)))) (he : WE g k env ρ c e (.int i) c1) (hmem : i ∈ ns) (hsz : ns.length ≤ sizeLine)
    (hbase : attributeBase (.Name x p1) "index" env (eval (.Name x p1) env) = eval (.Name x p1) env := by rfl) (hline : (p2.endLine == p3.line) = true := by rfl)
    (htrees : backTo p3 (starEach [e] env) = [(false, eval e env)] := by rfl) (hd : (x == ("__debug__" : Str)) = false := by decide) (hcd : (x == ("__classdict__" : Str)) = false := by decide) :
    WE g k env ρ c (.Call (.Attribute (.Name x p1) "index" p2) [e] [] p3) (.int (ns.idxOf i)) c1 := .mk fun A E B Z ad s ok sim => by
  refine wpAny_Call_method1_late hbase hline htrees (sim.ownName hx rfl ?_ hd hcd)
  obtain ⟨v, hl, rfl, vs, ⟨m, pl⟩, rl⟩ := sim.vars x _ hx
  refine ⟨"list", "list.index", PySem.F.plainAttrs_list, PySem.F.slot_list_index, rfl, ⟨_, pl, rfl⟩, fun a e => by cases e; exact ⟨_, pl, rfl⟩, ?_⟩
  refine PySem.P.index_list (wpAny_mono (he.go A E B Z ad s ok sim) (fun v s1 ⟨Z1, x1, r1⟩ => ?_) fun _ _ e => e)
  have pl2 := x1.keep _ _ (sim.privO x _ hx).2.2.1 pl
  have hlen : vs.length = ns.length := by have := rl.length; simpa using this
  have hsl : sizeLine < 2 ^ 60 := by rw [sizeLine_eq]; omega
  have hj : ns.idxOf i < ns.length := List.idxOf_lt_length_iff.mpr hmem
  have at_ : ∀ (j : Nat) (hj' : j < vs.length), ∃ t, vs[j] = .int (ns[j]'(hlen ▸ hj')) t := fun j hj' => by
    obtain ⟨b, hb, rb⟩ := F2.get rl (i := j) (a := vs[j]) (by simp [hj'])
    have hj2 : j < ns.length := hlen ▸ hj'
    rw [List.getElem?_map, List.getElem?_eq_getElem hj2] at hb
    simp at hb
    subst hb
    exact rep_int rb
  obtain ⟨_, rfl⟩ := rep_int r1
  refine ⟨vs.toArray, m, isInt i, ns.idxOf i, by simpa [hlen] using hj, pl2, fun y hy => ?_, by omega, ?_, fun q hq hlt => ?_, Z1, .of x1.le x1.zin x1.new x1.keep x1.clk x1.os x1.gs, .int _ _⟩
  · have hy' : y ∈ vs := by simpa using hy
    obtain ⟨j, hj', rfl⟩ := List.mem_iff_getElem.mp hy'
    obtain ⟨t, e⟩ := at_ j hj'
    rw [e]; exact MeetsSeq.EqGives.int _ _ _ _
  · obtain ⟨t, e⟩ := at_ (ns.idxOf i) (hlen ▸ hj)
    simp only [List.getElem_toArray, e, isInt]
    simp
  · have hq' : q < vs.length := by simpa using hq
    obtain ⟨t, e⟩ := at_ q hq'
    simp only [List.getElem_toArray, e, isInt]
    have := List.not_of_lt_findIdx (p := (· == i)) (xs := ns) (i := q) hlt
    simpa using this

/-- 'sep'.join(list of strings) -/
theorem strs_of : ∀ {vs : List Value} {xs : List Str}, RepL g Z vs (xs.map D.str) → StrsAre vs xs
  | _, [], .nil => .nil
  | _, x :: xs, .cons h t => by obtain ⟨_, rfl⟩ := rep_str h; exact .cons _ _ (strs_of t)
theorem WE.join {xs : List Str} {sep : Str} {l : Expr} {kk : Nat} (hl : WC g k env ρ c l (.list (xs.map D.str)) c1) (hok : (xs.map (·.length)).sum + xs.length * sep.length ≤ 16777216)
    (hbase : attributeBase (.Constant (.str sep) kk p1) "join" env (eval (.Constant (.str sep) kk p1) env) = eval (.Constant (.str sep) kk p1) env := by rfl) (hline : (p2.endLine == p3.line) = true := by rfl)
    (htrees : backTo p3 (starEach [l] env) = [(false, eval l env)] := by rfl) :
    WE g k env ρ c (.Call (.Attribute (.Constant (.str sep) kk p1) "join" p2) [l] [] p3) (.str (Txt.join sep xs)) c1 := .mk fun A E B Z ad s ok sim => by
  refine wpAny_Call_method1_late hbase hline htrees (wpAny_Constant_str ?_)
  refine ⟨"str", "str.join", PySem.F.plainAttrs_str, PySem.F.slot_str_join, PySem.F.type_str_join, typeIs_str _ _ _, fun a e => (by cases e), ?_⟩
  refine callWith_builtin_kwB rfl rfl (Calls.evalArgs_plain (Calls.spliced_cons (wpAny_mono (hl.go A E B Z ad { s with toks := _ } ok sim) (fun v s1 ⟨Z1, a, ha, hk, x1, ow⟩ => Calls.spliced_nil ?_) fun _ _ e => e)))
  subst ha
  obtain ⟨vs, pl, rl⟩ := ow
  exact join_list pl.isList (strs_of rl) hok fun t' k => ⟨Z1, x1.from.to, .str _ _⟩

/-! the attribute is_complete of an Entity -/
noncomputable def EntC (g : Cx) : Prop := ∃ nm q N bs sn sub ab col dd k0 k1 k2 k3 k5 newId mN, g.h₀.get? g.ent = some (excClassObj nm q g.ent N bs [.type "object"] true sn sub ab col dd k0 k1 k2 k3 k5 newId) ∧ g.h₀.Ns N mN ∧ mN "__getattribute__" = none ∧ mN "is_complete" = none
theorem lk_complete : typeLookup (.type "object") "is_complete" = pure none := by rw [typeLookup_type, builtinLookup_eq_fast]; kernel_rfl
theorem WE.complete (C : EntC g) (he : WE g k env ρ c e .ent c1) (hbase : attributeBase e "is_complete" env (eval e env) = eval e env := by rfl) : WE g k env ρ c (.Attribute e "is_complete" p) (.bool false) c1 := .mk fun A E B Z ad s ok sim => by
  rw [arm_eval_Attribute, hbase]
  refine wpAny_bind (wpAny_mono (he.go A E B Z ad s ok sim) (fun v s1 ⟨Z1, x1, r1⟩ => wpAny_bind (wpAny_standAt (wpAny_bind (wpAny_holding ?_)))) fun _ _ e => e)
  obtain ⟨nm, q, N, bs, sn, sub, ab, col, dd, k0, k1, k2, k3, k5, newId, mN, hC, hN, h1, h2⟩ := C
  have gr := (sim.ext x1).ground
  cases r1 with
  | ent a h0 hs =>
    obtain ⟨m, I, hm⟩ := hs _ x1.zin
    obtain ⟨hp, gg, dr, tk, os⟩ := s1
    refine load_attr (gr _ _ hC) (hN.keeps gr) h1 h2 lk_complete I hm rfl ?_
    exact wpAny_bind (wpAny_letTemporaryGo (wpAny_pure ⟨Z1, x1.to, .bool _⟩))

/-! tuple targets -/
inductive Names (env : Env) : List Expr → List D → Rho → Prop
  | nil : Names env [] [] []
  | cons {x : Str} {pp : Pos} {d : D} {es : List Expr} {ds : List D} {r : Rho} : Sto env x → Names env es ds r → Names env (.Name x pp :: es) (d :: ds) ((x, .f d) :: r)
theorem Names.each {es : List Expr} {ds : List D} {r : Rho} (h : Names env es ds r) : (assignEach es env).length = ds.length ∧ (assignEach es env).findIdx? (·.1) = none := by
  induction h with
  | nil => exact ⟨rfl, rfl⟩
  | @cons x pp d es ds r _ _ ih =>
    refine ⟨?_, ?_⟩
    · show ((false, PySem.assign (.Name x pp) env) :: assignEach es env).length = _
      simp [ih.1]
    · show List.findIdx? _ ((false, PySem.assign (.Name x pp) env) :: assignEach es env) = none
      rw [List.findIdx?_cons]
      simp [ih.2]
theorem WA.names {es : List Expr} {ds : List D} {r : Rho} (h : Names env es ds r) {A : Around} {E : Value → Shared → Prop} {Q : Unit → Shared → Prop} : ∀ {vs : List Value} {ρ : Rho} {s : Shared}, SimA g env B Z ad ρ c s.heap → RepL g Z vs ds →
    (∀ h' tk, SimA g env B Z ad (r.reverse ++ ρ) c h' → Q () { s with heap := h', toks := tk }) → wpAny g.M A (assignInOrder ((assignEach es env).map (·.2)) vs) Q E s := by
  induction h with
  | nil =>
    intro vs ρ s sim hr hq
    cases hr
    exact wpAny_assignInOrder_none (hq s.heap s.toks sim)
  | @cons x pp d es ds r hst _ ih =>
    intro vs ρ s sim hr hq
    cases hr with
    | @cons v _ vs _ rv rt =>
      show wpAny _ A (assignInOrder ((PySem.assign (.Name x pp) env) :: (assignEach es env).map (·.2)) (v :: vs)) Q E s
      refine wpAny_assignInOrder_more (wpAny_assign_Name (wp_store sim hst fun q h' tk S => ?_))
      refine ih (sim.storedF S rv) rt fun h'' tk' sim' => hq h'' tk' ?_
      simpa using sim'
theorem tup_ext {s : Shared} (x : Heap.ExtBut s.heap.objs.size s.heap h') (zi : Z.In s.heap) (ck : Clk g Z s.heap c) : Ext g Z Z s { s with heap := h' } c :=
  .grow zi ck fun b o e => x b o (Nat.ne_of_lt (Heap.lt_size e)) e
theorem tup_fresh {s : Shared} (sim : SimA g env B Z ad ρ c s.heap) (x : Heap.ExtBut s.heap.objs.size s.heap h') : SimA g env B Z ad ρ c h' := sim.ext (tup_ext x sim.zin sim.clk)
theorem WA.tup {es : List Expr} {ds : List D} {r : Rho} {kk : Nat} (h : Names env es ds r) : WA g env (.Tuple es kk p) (.tup ds) ρ (r.reverse ++ ρ) := fun A E B Z ad c s v Q hh sim rv hq => by
  cases rv with
  | tup a vs _ h0 h1 h2 h3 =>
    have pl := h1 _ sim.zin
    obtain ⟨e1, e2⟩ := h.each
    refine wpAny_assign_Tuple hh pl.isTuple (by rw [e1, List.size_toArray, h2]) e2 fun h' hx => ?_
    exact WA.names h (s := { s with heap := h' }) (tup_fresh sim hx) (F2.of_get h2 h3) fun h'' tk sim' => hq h'' tk sim'
/-- (x, y, ..) = e -/
theorem WS1.assignTup {es : List Expr} {ds : List D} {r : Rho} {kk : Nat} (h : Names env es ds r) (he : WE g k env ρ c e (.tup ds) c1) (hk : K .next (r.reverse ++ ρ) c1) (hs : swapsWithSole [.Tuple es kk p1] e p.line env = pure false := by rfl)
    (hw : swappedStores [.Tuple es kk p1] e env = pure none := by rfl) : WS1 g k env ρ c (.Assign [.Tuple es kk p1] e p) K := .mk fun A E B Z ad s ok sim => by
  refine wpAny_Assign_stores (wpAny_mono (he.go A E B Z ad s ok sim) (fun v s1 ⟨Z1, x1, r1⟩ => ?_) fun _ _ e => e) hs hw
  have sim1 := sim.ext x1
  show wpAny _ A (PySem.assign (.Tuple es kk p1) env v) _ E s1
  exact WA.tup h A E B Z1 ad c1 s1 v _ ok.hd sim1 r1 fun h' tk sim' => ⟨Z1, ad, _, c1, .next, .ext x1 sim.bin, sim', trivial, hk⟩

/-! (x, y, ..) = ([], [], ..) -/
theorem items_nils {A : Around} {E : Value → Shared → Prop} {pos : Pos} : ∀ {es : List Expr} {s : Shared} {Q : List Value → Shared → Prop}, (∀ e ∈ es, ∃ p, e = .List [] p) → SimA g env B Z ad ρ c s.heap →
    (∀ (as : List Addr) (s' : Shared), as.length = es.length → as.Nodup → (∀ a ∈ as, s.heap.get? a = none ∧ PList s'.heap a []) → Ext g Z Z s s' c → Q (as.map Value.ref) s') → wpAny g.M A (spliced (backTo pos (starEach es env))) Q E s
  | [], s, Q, _, sim, hq => wpAny_items_nil (hq [] s rfl .nil (by simp) sim.refl)
  | e :: es, s, Q, he, sim, hq => by
    obtain ⟨p, rfl⟩ := he _ (List.mem_cons_self ..)
    refine wpAny_items_cons (wpAny_List (wpAny_items_nil ⟨Nat.zero_le _, ?_⟩)) rfl
    have x1 : Ext g Z Z s _ c := Ext.push sim.zin sim.clk { cls := .type "list", data := .seq ([] : List Value).toArray }
    refine items_nils (s := { s with heap := _ }) (fun e h => he e (List.mem_cons_of_mem _ h)) (sim.ext x1) fun as s' h1 h2 h3 x2 => ?_
    have hp : (s.heap.push { cls := .type "list", data := .seq ([] : List Value).toArray }).get? s.heap.objs.size = some { cls := .type "list", data := .seq ([] : List Value).toArray } := Heap.get?_push_size _ rfl
    have nk : s.heap.objs.size ≠ g.κ := fun q => by obtain ⟨o, e⟩ := sim.clk.there; rw [← q, fresh_none] at e; cases e
    refine hq (s.heap.objs.size :: as) s' (by simp [h1]) (List.nodup_cons.mpr ⟨fun hm => ?_, h2⟩) (fun a ha => ?_) (x1.trans x2)
    · have := (h3 _ hm).1; rw [hp] at this; cases this
    · rcases List.mem_cons.mp ha with rfl | ha
      · exact ⟨fresh_none _, 0, x2.keep _ _ nk hp⟩
      · exact ⟨x1.back (h3 a ha).1, (h3 a ha).2⟩
theorem WA.nils {A : Around} {E : Value → Shared → Prop} {Q : Unit → Shared → Prop} : ∀ {es : List Expr} {xs : List Str} {as : List Addr} {ρ : Rho} {ad : Str → Addr} {s : Shared}, as.length = xs.length → F2 (fun e x => ∃ p, e = .Name x p) es xs → (∀ x ∈ xs, Sto env x) → SimA g env B Z ad ρ c s.heap →
    as.Nodup → (∀ a ∈ as, Z a = none ∧ B a = none ∧ a ≠ g.κ ∧ a ≠ env.locals ∧ (∀ n c, env.cells.lookup n = some c → a ≠ c) ∧ (∀ y d', ρ.lookup y = some (.o d') → a ≠ ad y) ∧ PList s.heap a []) →
    (∀ ad' h' tk, SimA g env B Z ad' ((xs.map fun x => (x, LV.o (.list []))).reverse ++ ρ) c h' → Q () { s with heap := h', toks := tk }) → wpAny g.M A (assignInOrder ((assignEach es env).map (·.2)) (as.map Value.ref)) Q E s
  | [], [], [], ρ, ad, s, _, _, _, sim, _, _, hq => wpAny_assignInOrder_none (hq ad s.heap s.toks sim)
  | e :: es, x :: xs, a :: as, ρ, ad, s, hl, hf, hst, sim, hnd, ha, hq => by
    cases hf with
    | cons hx ht =>
      obtain ⟨pp, rfl⟩ := hx
      show wpAny _ A (assignInOrder ((PySem.assign (.Name x pp) env) :: (assignEach es env).map (·.2)) (.ref a :: as.map Value.ref)) Q E s
      refine wpAny_assignInOrder_more (wpAny_assign_Name (wp_store sim (hst x (List.mem_cons_self ..)) fun q h' tk S => ?_))
      obtain ⟨a1, a2, a3, a4, a5, a6, a7⟩ := ha a (List.mem_cons_self ..)
      have sim' := sim.storedO (hb := s.heap) S (d := .list []) ⟨[], a7, .nil⟩ a1 a2 a3 a4 a5 (fun y d' _ hy => a6 y d' hy)
      obtain ⟨hnm, hnd'⟩ := List.nodup_cons.mp hnd
      refine WA.nils (s := { s with heap := h', toks := tk }) (by simpa using hl) ht (fun y hy => hst y (List.mem_cons_of_mem _ hy)) sim' hnd' (fun b hb => ?_) fun ad' h'' tk' sim'' => hq ad' h'' tk' (by simpa using sim'')
      obtain ⟨b1, b2, b3, b4, b5, b6, b7⟩ := ha b (List.mem_cons_of_mem _ hb)
      refine ⟨b1, b2, b3, b4, b5, fun y d' hy => ?_, b7.at fun o e => (S.same.2 b ?_).trans e⟩
      ·
        by_cases hyx : y = x
        · rw [if_pos hyx]; exact fun e => hnm (e ▸ hb)
        · rw [if_neg hyx]
          rcases lookup_put hy with ⟨e, _⟩ | ⟨_, hy⟩
          · exact absurd e hyx
          · exact b6 y d' hy
      · rcases S.here with e | ⟨n, hn⟩
        · rw [e]; exact b4
        · exact b5 n q hn
  | [], [], _ :: _, _, _, _, hl, _, _, _, _, _, _ => by simp at hl
  | [], _ :: _, _, _, _, _, _, hf, _, _, _, _, _ => by cases hf
  | _ :: _, [], _, _, _, _, _, hf, _, _, _, _, _ => by cases hf
  | _ :: _, _ :: _, [], _, _, _, hl, _, _, _, _, _, _ => by simp at hl

theorem WS1.assignNils {es vs : List Expr} {xs : List Str} {kk kk' : Nat} (h : F2 (fun e x => ∃ p, e = .Name x p) es xs) (hst : ∀ x ∈ xs, Sto env x) (hv : ∀ e ∈ vs, ∃ p, e = .List [] p) (hl : vs.length = es.length) (hsz : vs.length ≤ sizeLine)
    (hk : K .next ((xs.map fun x => (x, LV.o (.list []))).reverse ++ ρ) c) (hs : swapsWithSole [.Tuple es kk p1] (.Tuple vs kk' p2) p.line env = pure false := by rfl)
    (hw : swappedStores [.Tuple es kk p1] (.Tuple vs kk' p2) env = pure none := by rfl) (he1 : (assignEach es env).length = es.length := by rfl) (he2 : (assignEach es env).findIdx? (·.1) = none := by rfl) : WS1 g k env ρ c (.Assign [.Tuple es kk p1] (.Tuple vs kk' p2) p) K := .mk fun A E B Z ad s ok sim => by
  refine wpAny_Assign_stores (wpAny_Tuple (items_nils hv sim fun as s1 h1 h2 h3 x1 => ⟨by simpa [h1] using hsz, ?_⟩)) hs hw
  have sim1 := sim.ext x1
  have x2 : Ext g Z Z s1 _ c := Ext.push x1.zin x1.clk { cls := .type "tuple", data := .seq (as.map Value.ref).toArray }
  have sim2 := sim1.ext x2
  have hp : (s1.heap.push { cls := .type "tuple", data := .seq (as.map Value.ref).toArray }).IsTuple s1.heap.objs.size (as.map Value.ref).toArray := ⟨_, Heap.get?_push_size _ rfl, rfl, _, rfl⟩
  show wpAny _ A (PySem.assign (.Tuple es kk p1) env _) _ E _
  refine wpAny_assign_Tuple ok.hd hp (by rw [he1]; simp [h1, hl]) he2 fun h' hx => ?_
  have x3 := tup_ext hx sim2.zin sim2.clk
  have sim3 := sim2.ext x3
  have hlen := h.length
  refine WA.nils (s := { s1 with heap := h' }) (by rw [h1, hl, hlen]) h hst sim3 h2 (fun a ha => ?_) fun ad' h'' tk sim' => ⟨Z, ad', _, c, .next, .ext ((x1.trans x2).trans x3) sim.bin, sim', trivial, hk⟩
  obtain ⟨f1, f2, f3, f4, f5⟩ := fresh_apart sim (h3 a ha).1
  have hz : Z a = none := by
    cases e : Z a with
    | none => rfl
    | some o => have := sim.zin a o e; rw [(h3 a ha).1] at this; cases this
  exact ⟨hz, f1, f2, f3, f4, f5, (h3 a ha).2.at fun o e => x3.keep _ o f2 (x2.keep _ o f2 e)⟩

/-! the clock -/
theorem SimA.tick (sim : SimA g env B Z ad ρ c h) (hs : Heap.SameBut g.κ h h') (ck : Clk g Z h' c') : SimA g env B Z ad ρ c' h' := by
  have zi : Z.In h' := fun a o e => (hs.2 a fun q => by rw [q, sim.kap.1] at e; cases e).trans (sim.zin a o e)
  refine { sim with
    zin := zi
    bin := fun a o e => (hs.2 a fun q => by rw [q, sim.kap.2] at e; cases e).trans (sim.bin a o e)
    ns := let ⟨m, hm⟩ := sim.ns; ⟨m, hm.sameBut hs sim.privL.2.2⟩
    cells := fun n cc hc => let ⟨v, q, e, hd⟩ := sim.cells n cc hc; ⟨v, q, (hs.2 cc (sim.privC n cc hc).2.2).trans e, hd⟩
    vars := fun y lv hy => ?_
    clk := ck }
  obtain ⟨v, hl, hr⟩ := sim.vars y lv hy
  refine ⟨v, hl.at (fun q e => (hs.2 _ sim.privL.2.2).trans e) fun n cc q hc e => (hs.2 _ (sim.privC n cc hc).2.2).trans e, ?_⟩
  cases lv with
  | f d1 => exact hr
  | o d1 => exact ⟨hr.1, Own.frame hr.2 (fun q e => (hs.2 _ (sim.privO y d1 hy).2.2.1).trans e) (.refl _) zi⟩
end Mine
end

section
open PySem PySem.W PyProof.Rows
set_option linter.unusedVariables false
set_option maxRecDepth 100000
namespace Mine
variable {g : Cx} {k : Nat} {env : Env} {B Z Z' Z'' : Zm} {ad : Str → Addr} {ρ : Rho} {c c' c'' c1 c2 c3 : Int} {h h' h'' : Heap} {e l r : Expr} {d d1 d2 : D} {p p1 p2 p3 p4 p5 : Pos} {mg mb : Str → Option Value}
variable {K K' : Fl → Rho → Int → Prop} {ss : List Stmt} {st : Stmt}

/-! a def's own frame -/
/-- the frame of a call of a def whose scope is sc -/
noncomputable def fenv (sc : Scope) (L a : Addr) (q : Str) (code : Value) : Env := { scope := sc, locals := L, globals := mainGlobals, cells := cellsFrom (L + 1) sc.names [], qual := q, func := some a, code := code, frame := some L, builtins := builtinsNs }
noncomputable def endOf (d : D) (c' : Int) (fl : Fl) (_ : Rho) (c'' : Int) : Prop := c'' = c' ∧ (fl = .ret d ∨ (fl = .next ∧ d = .none))
/-- what a body does when it is called with ds -/
noncomputable def Body (g : Cx) (k : Nat) (sc : Scope) (body : List Stmt) (xs : List Str) (ds : List D) (c : Int) (d : D) (c' : Int) : Prop :=
  ∀ L a q code, WS g k (fenv sc L a q code) ((xs.zip (ds.map LV.f))) c body (endOf d c')

theorem bindL_other {kf : Str → Option NameKind} {x : Str} : ∀ {b : List (Str × Value)} {m : Str → Option Value}, x ∉ b.map (·.1) → bindL kf b m x = m x
  | [], m, _ => rfl
  | (n, v) :: r, m, h => by
    simp only [List.map_cons, List.mem_cons, not_or] at h
    unfold bindL
    rw [bindL_other h.2]
    split
    · show (if x = n then _ else _) = _
      rw [if_neg h.1]
    · rfl
theorem bindC_other {kf : Str → Option NameKind} {x : Str} : ∀ {b : List (Str × Value)} {m : Str → Option Value}, x ∉ b.map (·.1) → bindC kf b m x = m x
  | [], m, _ => rfl
  | (n, v) :: r, m, h => by
    simp only [List.map_cons, List.mem_cons, not_or] at h
    unfold bindC
    rw [bindC_other h.2]
    split
    · rfl
    · show (if x = n then _ else _) = _
      rw [if_neg h.1]
theorem bind_at {kf : Str → Option NameKind} {x : Str} {v : Value} : ∀ {b : List (Str × Value)} {m m' : Str → Option Value}, (b.map (·.1)).Nodup → (x, v) ∈ b → (kf x = some .local → bindL kf b m x = some v) ∧ (kf x ≠ some .local → bindC kf b m' x = some v)
  | (n, u) :: r, m, m', hn, hm => by
    simp only [List.map_cons, List.nodup_cons] at hn
    rcases List.mem_cons.mp hm with e | hm
    · cases e
      refine ⟨fun hk => ?_, fun hk => ?_⟩
      · unfold bindL; rw [bindL_other hn.1, if_pos hk, if_pos rfl]
      · unfold bindC; rw [bindC_other hn.1, if_neg hk, if_pos rfl]
    · unfold bindL bindC
      exact bind_at hn.2 hm

theorem zip_rep {v : Value} {lv : LV} {x : Str} : ∀ {xs : List Str} {vs : List Value} {ds : List D}, RepL g Z vs ds → xs.length = ds.length → (xs.zip (ds.map LV.f)).lookup x = some lv → ∃ v d, (x, v) ∈ xs.zip vs ∧ lv = .f d ∧ g.Rep Z v d
  | [], _, _, _, _, h => by simp at h
  | _ :: _, [], _, .nil, hl, _ => by simp at hl
  | x' :: xs, v :: vs, d :: ds, .cons r t, hl, h => by
    simp only [List.map_cons, List.zip_cons_cons] at h ⊢
    rcases lookup_put h with ⟨rfl, rfl⟩ | ⟨_, h⟩
    · exact ⟨v, d, List.mem_cons_self .., rfl, r⟩
    · obtain ⟨v', d', h1, h2, h3⟩ := zip_rep (v := v) t (by simpa using hl) h
      exact ⟨v', d', List.mem_cons_of_mem _ h1, h2, h3⟩

theorem map_zip_fst : ∀ {xs : List Str} {vs : List Value}, xs.length = vs.length → (xs.zip vs).map (·.1) = xs
  | [], [], _ => rfl
  | x :: xs, v :: vs, h => by simp [map_zip_fst (xs := xs) (vs := vs) (by simpa using h)]

/-- the frame at the begin of a call -/
theorem start_sim {sc : Scope} {xs : List Str} {ds : List D} {vs : List Value} {s s1 : Shared} {a : Addr} {q : Str} {code : Value} (hk : sc.kind = .function) (hl : xs.length = ds.length) (hn : xs.Nodup) (zi : Z.In s.heap) (z0 : ∀ b o, g.h₀.get? b = some o → Z b = some o) (ck : Clk g Z s.heap c) (hz : Z g.κ = none) (rl : RepL g Z vs ds)
    (hp : ∀ x ∈ xs, sc.names.lookup x = some .local ∨ (sc.names.lookup x = some .cell ∧ ((cellsFrom (s.heap.objs.size + 1) sc.names []).lookup x).isSome = true))
    (x : InCallC s (fenv sc s.heap.objs.size a q code).locals (bindL (fenv sc s.heap.objs.size a q code).kindOf (xs.zip vs) fun _ => none) (fenv sc s.heap.objs.size a q code).cells (bindC (fenv sc s.heap.objs.size a q code).kindOf (xs.zip vs) fun _ => none) s1) :
    SimA g (fenv sc s.heap.objs.size a q code) (fun b => if b = g.κ then none else s.heap.get? b) Z (fun _ => 0) (xs.zip (ds.map LV.f)) c s1.heap := by
  have keep := x.toInCall.keep
  have fresh : ∀ {b : Addr}, s.heap.objs.size ≤ b → s.heap.get? b = none := fun {b} hb => by
    cases e : s.heap.get? b with
    | none => rfl
    | some o => exact absurd (Heap.lt_size e) (Nat.not_lt.mpr hb)
  have priv : ∀ {b : Addr}, s.heap.objs.size ≤ b → Z b = none ∧ (if b = g.κ then none else s.heap.get? b) = none ∧ b ≠ g.κ := fun {b} hb => by
    have hb' := fresh hb
    refine ⟨?_, ?_, ?_⟩
    · cases e : Z b with
      | none => rfl
      | some o => have := zi b o e; rw [hb'] at this; cases this
    · split <;> simp [hb']
    · rintro rfl; obtain ⟨o, e⟩ := ck.there; rw [hb'] at e; cases e
  exact {
    fn := hk
    gl := rfl
    bl := rfl
    zin := fun b o e => keep b o (zi b o e)
    bin := fun b o e => by
      dsimp only at e
      split at e
      · cases e
      · exact keep b o e
    z0 := z0
    ns := ⟨_, x.toInCall.ns⟩
    cells := fun n c hc => ⟨_, x.cell n c hc⟩
    vars := fun y lv hy => by
      obtain ⟨v, d, hm, rfl, hr⟩ := zip_rep (v := .none) rl hl hy
      have hlv : vs.length = xs.length := rl.length.trans hl.symm
      have hnd : ((xs.zip vs).map (·.1)).Nodup := by rw [map_zip_fst hlv.symm]; exact hn
      have at_ := bind_at (kf := (fenv sc s.heap.objs.size a q code).kindOf) (m := fun _ => none) (m' := fun _ => none) hnd hm
      have hyx : y ∈ xs := (List.of_mem_zip hm).1
      refine ⟨v, ?_, hr⟩
      rcases hp y hyx with hl | ⟨hc, hs⟩
      · exact .inl ⟨hl, _, x.toInCall.ns, at_.1 hl⟩
      · obtain ⟨cc, hcc⟩ := Option.isSome_iff_exists.mp hs
        have := x.cell y cc hcc
        rw [at_.2 (by show sc.names.lookup y ≠ _; rw [hc]; decide)] at this
        exact .inr ⟨.inl hc, cc, hcc, this⟩
    inj := fun y z d1 d2 hy => by
      obtain ⟨_, _, _, e, _⟩ := zip_rep (v := .none) rl hl hy
      cases e
    apartL := fun n cc hc => Nat.ne_of_gt (x.above n cc (mem_of_lookup hc))
    apartC := fun n n' cc h1 h2 => name_of_addr x.apart (mem_of_lookup h1) (mem_of_lookup h2)
    privL := priv x.toInCall.fresh
    privC := fun n cc hc => priv (Nat.le_of_lt (Nat.lt_of_le_of_lt x.toInCall.fresh (x.above n cc (mem_of_lookup hc))))
    privO := fun y d hy => by
      obtain ⟨_, _, _, e, _⟩ := zip_rep (v := .none) rl hl hy
      cases e
    clk := ck.mono (.refl Z) fun o e => keep _ o e
    kap := ⟨hz, if_pos rfl⟩ }

/-- at a call's end -/
theorem end_ext {s s1 s' : Shared} {ad' : Str → Addr} {ρ' : Rho} (zz : ZStep (fun b => if b = g.κ then none else s.heap.get? b) Z Z' s1 s') (ho : s1.os = s.os) (hg : s1.gens = s.gens) (sim : SimA g env (fun b => if b = g.κ then none else s.heap.get? b) Z' ad' ρ' c' s'.heap) (hz : Z g.κ = none) : Ext g Z Z' s s' c' where
  le := zz.le
  zin := sim.zin
  new := fun a ha ⟨o, e⟩ => by
    by_cases hk : a = g.κ
    · subst hk; exact sim.kap.1
    · exact zz.new a ha (by rw [if_neg hk, e]; exact fun q => by cases q)
  keep := fun b o hb e => sim.bin b o (by rw [if_neg hb]; exact e)
  clk := sim.clk
  os := zz.os.trans ho
  gs := zz.gs.trans hg

structure FnIs (fd : FuncData) (sc : Scope) (ps : Arguments) (body : List Stmt) : Prop where
  params : fd.params = ps
  body : fd.body = .stmts body
  scope : fd.scope = sc
  def0 : fd.defaults = .none
  kwd0 : fd.kwdefaults = .none

theorem FSpec.of_body (G : Gd g mg mb) {x : Str} {fa : Addr} {fd : FuncData} (F : FnAt g mg x fa fd) {sc : Scope} {ps : Arguments} {body : List Stmt} (N : FnIs fd sc ps body) {xs : List Str} {ds : List D} (b : Body g k sc body xs ds c d c')
    (hbind : ∀ vs : List Value, vs.length = xs.length → ∀ fd : FuncData, fd.params = ps → fd.defaults = .none → fd.kwdefaults = .none → bindArgs fd ⟨vs, []⟩ = pure (xs.zip vs)) (hl : xs.length = ds.length) (hn : xs.Nodup) (hk : sc.kind = .function) (hco : sc.isCoroutine = false) (hgen : sc.isGenerator = false)
    (hp : ∀ L, ∀ x ∈ xs, sc.names.lookup x = some .local ∨ (sc.names.lookup x = some .cell ∧ ((cellsFrom (L + 1) sc.names []).lookup x).isSome = true)) : FSpec g (k + 1) fa ds c d c' := fun A E Z s vs ok zi z0 ck hz rl => by
  obtain ⟨o, ho, hdat⟩ := F.there
  have gr : ∀ b o, g.h₀.get? b = some o → s.heap.get? b = some o := fun b o e => zi b o (z0 b o e)
  have hlv : vs.length = xs.length := rl.length.trans hl.symm
  have hsc := N.scope
  refine wpAny_call (codeAny_call_cells (o := o) (fd := fd) (body := body) (binds := xs.zip vs) ok.room (gr _ _ ho) hdat (G.lim.keeps gr) (F.code.keeps gr) N.body (hbind vs hlv fd N.params N.def0 N.kwd0) F.clo ?_ ?_ (by rw [hsc]; exact hco) (by rw [hsc]; exact hgen) (by rw [hsc]; exact hk))
  · rw [hsc]; exact fun y hy => hp _ y.1 (List.of_mem_zip hy).1
  · intro s1 x
    have he : callEnvC fd s.heap.objs.size fa = fenv sc s.heap.objs.size fa (fd.qualname ++ ".<locals>.") fd.code := by
      unfold callEnvC newEnv fenv
      rw [hsc, F.gl, F.bl]
    rw [he] at x ⊢
    have sim := start_sim hk hl hn zi z0 ck hz rl (hp _) x
    refine wpAny_mono ((b _ _ _ _).go (A.deeper _) _ _ Z _ s1 ok.deeper sim) (fun f s2 ⟨Z2, ad2, ρ2, c2, fl, z2, sim2, hf, hc, hend⟩ => ?_) fun _ _ e => e
    subst hc
    obtain ⟨hs1, hs2⟩ : s1.os = s.os ∧ s1.gens = s.gens := by
      obtain ⟨h₁, tk, rfl, _⟩ := x.done
      exact ⟨rfl, rfl⟩
    have x2 := end_ext z2 hs1 hs2 sim2 hz
    rcases hend with rfl | ⟨rfl, rfl⟩
    · cases f <;> first | exact hf.elim | exact ⟨Z2, x2, hf⟩
    · cases f <;> first | exact hf.elim | exact ⟨Z2, x2, .none⟩
end Mine
end

section
open PySem PySem.W PyProof.Rows
set_option linter.unusedVariables false
set_option maxRecDepth 100000
namespace Mine
variable {g : Cx} {k : Nat} {env : Env} {B Z Z' Z'' : Zm} {ad : Str → Addr} {ρ : Rho} {c c' c'' c1 c2 c3 : Int} {h h' h'' : Heap} {e l r : Expr} {d d1 d2 : D} {p p1 p2 p3 p4 p5 : Pos} {mg mb : Str → Option Value}
variable {K K' : Fl → Rho → Int → Prop} {ss : List Stmt} {st : Stmt}

noncomputable abbrev BodyAt (g : Cx) (k i : Nat) (xs : List Str) (ds : List D) (c : Int) (d : D) (c' : Int) : Prop := Body g k (fnAt i).2.2 (fnAt i).2.1 xs ds c d c'

/-- a place between two statements -/
theorem WS.mid (ρm : Rho) (cm : Int) (x : WS1 g k env ρ c st (fun fl ρ' c' => match fl with | .next => Sub ρm ρ' ∧ c' = cm | fl => K fl ρ' c')) (y : WS g k env ρm cm ss K) : WS g k env ρ c (st :: ss) K :=
  .cons (x.mono fun fl ρ' c' h => by
    cases fl with
    | next => obtain ⟨h1, rfl⟩ := h; exact y.weaken h1
    | _ => exact h)
/-- a block's end, at a place -/
theorem WS.fall (h : K .next ρ c) : WS g k env ρ c [] K := .nil h

/-- known, frozen; known, its own -/
noncomputable abbrev fr (x : Str) (d : D) : Str × LV := (x, .f d)
noncomputable abbrev ow (x : Str) (d : D) : Str × LV := (x, .o d)

noncomputable def CellsSub (big : List (Str × Addr)) : List (Str × Addr) → Prop
  | [] => True
  | (n, c) :: r => big.lookup n = some c ∧ CellsSub big r
theorem CellsSub.sub {big : List (Str × Addr)} : ∀ {cl : List (Str × Addr)}, CellsSub big cl → ∀ n c, cl.lookup n = some c → big.lookup n = some c
  | [], _, n, c, h => by simp at h
  | (m, d) :: r, hs, n, c, h => by
    rw [List.lookup_cons] at h
    by_cases hb : (n == m) = true
    · rw [hb] at h; cases h
      rw [eq_of_beq hb]; exact hs.1
    · have hb' : (n == m) = false := by simpa using hb
      rw [hb'] at h
      exact hs.2.sub n c h
noncomputable def CapL (env : Env) (scope : Scope) (cl : List (Str × Addr)) (x : Str) (ρ : Rho) : Rho → Prop
  | [] => True
  | (y, lv) :: r => (ρ.lookup y = some lv ∧ (env.kindOf y = some .cell ∨ env.kindOf y = some .free) ∧ (y == x) = false ∧ ((relabel scope env).names.lookup y = some .cell ∨ (relabel scope env).names.lookup y = some .free) ∧ cl.lookup y = env.cells.lookup y) ∧ CapL env scope cl x ρ r
theorem CapL.cap {scope : Scope} {cl : List (Str × Addr)} {x : Str} : ∀ {ρc : Rho}, CapL env scope cl x ρ ρc → ∀ y lv, ρc.lookup y = some lv → ρ.lookup y = some lv ∧ env.kindOf y ≠ some .local ∧ y ≠ x ∧ ((relabel scope env).names.lookup y = some .cell ∨ (relabel scope env).names.lookup y = some .free) ∧ ∀ q, env.cells.lookup y = some q → cl.lookup y = some q
  | [], _, y, lv, h => by simp at h
  | (z, lw) :: r, hs, y, lv, h => by
    rcases lookup_put h with ⟨rfl, rfl⟩ | ⟨_, h⟩
    · obtain ⟨⟨h1, h2, h3, h4, h5⟩, _⟩ := hs
      exact ⟨h1, fun e => (by rcases h2 with q | q <;> rw [q] at e <;> cases e), fun e => (by subst e; simp at h3), h4, fun q hq => h5.trans hq⟩
    · exact hs.2.cap y lv h
theorem CompCx.of {scope : Scope} {cl : List (Str × Addr)} {x : Str} {ρc : Rho} (clos : closureFor scope env = pure cl) (cap : CapL env scope cl x ρ ρc) (sub : CellsSub env.cells cl) (kind : scope.kind = .function := by rfl)
    (hx : scope.names.lookup x = some .local := by rfl) (cell : ∀ y ∈ scope.names, y.2 ≠ .cell := by decide) (names : ∀ y ∈ scope.names, y.2 = .local → scope.names.lookup y.1 = some .local := by decide) : CompCx env scope cl x ρ ρc where
  clos := clos
  kind := kind
  cell := cell
  names := names
  hx := hx
  sub := sub.sub
  cap := cap.cap

section
variable {elt iter : Expr} {x : Str} {px pos : Pos} {ifs : List Expr} {scope : Scope} {α : Type}
/-- a comprehension's value; ρc: the names that it takes from around; cl: their cells -/
theorem WO.compO (ρc : Rho) (cl : List (Str × Addr)) (enc : α → D) (items : List α) (p : α → Bool) (F : α → D) {out : List D} (he : WE g k env ρ c iter d c1) (hI : Iters d (items.map enc)) (W : CompCx env scope cl x ρ ρc)
    (htest : ∀ C, ∀ d ∈ items, WTests g k (compEnvC scope cl C env) ((x, .f (enc d)) :: ρc) c1 ifs (p d))
    (helt : ∀ C, ∀ d ∈ items, p d = true → WE g k (compEnvC scope cl C env) ((x, .f (enc d)) :: ρc) c1 elt (F d) c1) (hsz : items.length ≤ sizeLine) (hout : (items.filter p).map F = out)
    (hs : ∀ x, foldedSetIterable iter env x = pure x := by intro _; rfl) : WO g k env ρ c (.ListComp elt [⟨.Name x px, iter, ifs, 0⟩] scope pos) (.list out) c1 := hout ▸ WO.comp he hI W p F hsz htest helt hs
theorem WS1.assignCompO {y : Str} {py : Pos} (ρc : Rho) (cl : List (Str × Addr)) (enc : α → D) (items : List α) (p : α → Bool) (F : α → D) {out : List D} (he : WE g k env ρ c iter d c1) (hI : Iters d (items.map enc)) (W : CompCx env scope cl x ρ ρc)
    (htest : ∀ C, ∀ d ∈ items, WTests g k (compEnvC scope cl C env) ((x, .f (enc d)) :: ρc) c1 ifs (p d))
    (helt : ∀ C, ∀ d ∈ items, p d = true → WE g k (compEnvC scope cl C env) ((x, .f (enc d)) :: ρc) c1 elt (F d) c1) (hsz : items.length ≤ sizeLine) (hout : (items.filter p).map F = out)
    (hst : Sto env y) (hk : K .next ((y, .o (.list out)) :: ρ) c1)
    (hsw : swapsWith (.ListComp elt [⟨.Name x px, iter, ifs, 0⟩] scope pos) (some (.Name y py)) p1.line env = pure true := by rfl)
    (hs : ∀ x, foldedSetIterable iter env x = pure x := by intro _; rfl) : WS1 g k env ρ c (.Assign [.Name y py] (.ListComp elt [⟨.Name x px, iter, ifs, 0⟩] scope pos) p1) K := WS1.assignComp hsw hst he hI W p F hsz htest helt (by rw [hout]; exact hk) hs
end

theorem WTs.and_stop {es : List Expr} {b : Bool} (h1 : WT g k env ρ c e b c') (hb : b = false) : WTs g k env ρ c .And (e :: es) false c' := .mk fun A E B Z ad s ok sim =>
  wpAny_allTrue_And_cons (wpAny_mono (h1.go A E B Z ad s ok sim) (fun r s1 ⟨hr, Z1, x1⟩ => by rw [hr, hb]; exact ⟨rfl, Z1, x1⟩) fun _ _ e => e)
theorem WTs.or_stop {es : List Expr} {b : Bool} (h1 : WT g k env ρ c e b c') (hb : b = true) : WTs g k env ρ c .Or (e :: es) true c' := .mk fun A E B Z ad s ok sim =>
  wpAny_allTrue_Or_cons (wpAny_mono (h1.go A E B Z ad s ok sim) (fun r s1 ⟨hr, Z1, x1⟩ => by rw [hr, hb]; exact ⟨rfl, Z1, x1⟩) fun _ _ e => e)
/-- the test is known -/
theorem WS1.iteT {t : Expr} {body orelse : List Stmt} {b : Bool} (ht : WT g k env ρ c t b c') (hb : b = true) (h : WS g k env ρ c' body K) : WS1 g k env ρ c (.If t body orelse p) K := .ite ht (fun _ => h) fun q => by rw [hb] at q; cases q
theorem WS1.iteF {t : Expr} {body orelse : List Stmt} {b : Bool} (ht : WT g k env ρ c t b c') (hb : b = false) (h : WS g k env ρ c' orelse K) : WS1 g k env ρ c (.If t body orelse p) K := .ite ht (fun q => by rw [hb] at q; cases q) fun _ => h
theorem WE.ifT {t b o : Expr} {bb : Bool} (ht : WT g k env ρ c t bb c1) (hb : bb = true) (h : WE g k env ρ c1 b d c2) : WE g k env ρ c (.IfExp t b o p) d c2 := .ifexp ht (fun _ => h) fun q => by rw [hb] at q; cases q
theorem WE.ifF {t b o : Expr} {bb : Bool} (ht : WT g k env ρ c t bb c1) (hb : bb = false) (h : WE g k env ρ c1 o d c2) : WE g k env ρ c (.IfExp t b o p) d c2 := .ifexp ht (fun q => by rw [hb] at q; cases q) fun _ => h

theorem body_item_name {kind nm : Str} {x : D} {rest : List D} (hk : kind = "package" ∨ kind = "packbody") : BodyAt g k 1 ["item"] [.tup (.str kind :: x :: .str nm :: rest)] c (.str nm) c := fun L a q code => by
  have h1 : (kind == "generic") = false := by rcases hk with rfl | rfl <;> rfl
  have h2 : (([.str "subprog", .str "subbody", .str "abstract"] : List D).any fun d => d.same (.str kind)) = false := by rcases hk with rfl | rfl <;> rfl
  have h3 : (([.str "instance", .str "rename"] : List D).any fun d => d.same (.str kind)) = false := by rcases hk with rfl | rfl <;> rfl
  refine WS.cons (WS1.assign (.inl rfl) (WE.ifexp (WCmp.vv (WE.sub (WE.toC (WE.name rfl)) WE.int (SubV.tup (by decide) (by decide) rfl)) WE.str CmpV.str_eq).toT (fun h => by rw [h1] at h; cases h) (fun _ => WE.name rfl)) ?_)
  refine WS.cons (WS1.ite (WCmp.vc (WE.sub (WE.toC (WE.name rfl)) WE.int (SubV.tup (by decide) (by decide) rfl)) (WE.toC (WE.tup (.cons WE.str (.cons WE.str (.cons WE.str .nil))))) (CmpC.in_tup rfl)).toT (fun h => by rw [h2] at h; cases h) (fun _ => .nil ?_))
  refine WS.cons (WS1.ret (WE.ifexp (WCmp.vc (WE.sub (WE.toC (WE.name rfl)) WE.int (SubV.tup (by decide) (by decide) rfl)) (WE.toC (WE.tup (.cons WE.str (.cons WE.str .nil)))) (CmpC.in_tup rfl)).toT (fun h => by rw [h3] at h; cases h) (fun _ => WE.sub (WE.toC (WE.name rfl)) WE.int (SubV.tup (by decide) (by decide) rfl))) ?_)
  exact ⟨rfl, .inl rfl⟩
end Mine
end

section
open PySem PySem.W PyProof.Rows
set_option linter.unusedVariables false
set_option maxRecDepth 100000
namespace Mine
variable {g : Cx} {k : Nat} {env : Env} {B Z Z' Z'' : Zm} {ad : Str → Addr} {ρ : Rho} {c c' c'' c1 c2 c3 : Int} {h h' h'' : Heap} {e l r : Expr} {d d1 d2 : D} {p p1 p2 p3 p4 p5 : Pos} {mg mb : Str → Option Value}
variable {K K' : Fl → Rho → Int → Prop} {ss : List Stmt} {st : Stmt}

/-! a context's clauses -/
inductive CL where
  | wth (ns : List Str)
  | prag (w : Str) (as : List (Option Str))
noncomputable def nameD (n : Str) : D := .tup [.str "name", .str n]
noncomputable def argD : Option Str → D
  | some n => .tup [.none, nameD n]
  | none => .tup [.none, .tup [.str "int", .int 3]]
noncomputable def clD : CL → D
  | .wth ns => .tup [.str "with", .int 1, .list (ns.map nameD)]
  | .prag w as => .tup [.str "pragma", .int 1, .str w, .list (as.map argD)]
/-- what a clause tells for the word w -/
noncomputable def told1 (w : Str) : CL → List Str
  | .wth ns => if w = "with" then ns else []
  | .prag v as => if v = w then as.filterMap id else []
noncomputable def toldBy (w : Str) (ctx : List CL) : List Str := ctx.flatMap (told1 w)

theorem toldBy_take (w : Str) (ctx : List CL) (i : Nat) : (toldBy w (ctx.take i)).length ≤ (toldBy w ctx).length := by
  have : toldBy w ctx = toldBy w (ctx.take i) ++ toldBy w (ctx.drop i) := by
    unfold toldBy; rw [← List.flatMap_append, List.take_append_drop]
  rw [this, List.length_append]; omega
theorem toldBy_succ {w : Str} {ctx : List CL} {i : Nat} {cl : CL} (h : ctx[i]? = some cl) : toldBy w (ctx.take (i + 1)) = toldBy w (ctx.take i) ++ told1 w cl := by
  unfold toldBy; rw [List.take_add_one, h, List.flatMap_append]; simp

section
variable {w : Str} {ctx : List CL}
theorem body_named_units (hsz : (toldBy w ctx).length ≤ 1000) (hn : ∀ cl ∈ ctx, match cl with | .wth ns => ns.length ≤ 1000 | .prag _ as => as.length ≤ 1000) : BodyAt g k 3 ["context", "word"] [.list (ctx.map clD), .str w] c (.list ((toldBy w ctx).map D.str)) c := fun L a q code => by
  refine WS.mid [ow "found" (.list []), fr "word" (.str w), fr "context" (.list (ctx.map clD))] c (WS1.assignO (.inl rfl) (WO.list .nil) ⟨Sub.of ⟨rfl, rfl, rfl, trivial⟩, rfl⟩) ?_
  refine WS.mid [ow "found" (.list ((toldBy w ctx).map D.str))] c (WS1.forIn (WE.name rfl) (.list _) (fun i ρ c1 => ρ = [ow "found" (.list ((toldBy w (ctx.take i)).map D.str)), fr "word" (.str w), fr "context" (.list (ctx.map clD))] ∧ c1 = c) ⟨_, fun _ _ h => h, rfl, rfl⟩ ?_ ?_) ?_
  · rintro i d1 ρ1 c1 hd ⟨rfl, rfl⟩
    rw [List.getElem?_map, Option.map_eq_some_iff] at hd
    obtain ⟨cl, hcl, rfl⟩ := hd
    have hmem := List.mem_of_getElem? hcl
    have hlen := toldBy_take w ctx i
    have hsl : sizeLine = 16777216 := rfl
    rw [toldBy_succ hcl]
    refine ⟨_, WA.name (.inl rfl), ?_⟩
    cases cl with
    | wth ns =>
      have hns : ns.length ≤ 1000 := hn _ hmem
      refine WS.mid [ow "found" (.list ((toldBy w (ctx.take i) ++ told1 w (.wth ns)).map D.str)), fr "clause" (clD (.wth ns)), fr "word" (.str w), fr "context" (.list (ctx.map clD))] c1
        (WS1.ite (WTs.toT (WTs.and_cons (WCmp.toT (WCmp.vv (WE.name rfl) WE.str CmpV.str_eq)) fun _ => WTs.and_cons (WCmp.toT (WCmp.vv (WE.sub (WE.toC (WE.name rfl)) WE.int (SubV.tup (by decide) (by decide) rfl)) WE.str CmpV.str_eq)) fun _ => WTs.and_nil)) (fun hb => ?_) fun hb => ?_) ?_
      · have hw : w = "with" := by simpa using hb
        have e : told1 w (.wth ns) = ns := by simp [told1, hw]
        rw [e]
        refine WS.cons (WS1.augList (es := ns.map D.str) (c' := c1) (.inl rfl) rfl (WO.toE (WO.compO [] [] nameD ns (fun _ => true) D.str (WE.sub (WE.toC (WE.name rfl)) WE.int (SubV.tup (by decide) (by decide) rfl)) (.list _) (CompCx.of rfl trivial trivial)
          (fun C n hn => WTests.one (WCmp.toT (WCmp.vv (WE.sub (WE.toC (WE.name rfl)) WE.int (SubV.tup (by decide) (by decide) rfl)) WE.str CmpV.str_eq)))
          (fun C n hn _ => WE.sub (WE.toC (WE.name rfl)) WE.int (SubV.tup (by decide) (by decide) rfl)) (by omega) (by rw [List.filter_eq_self.mpr (fun _ _ => rfl)]))) (.nil ?_) ?_)
        · refine ⟨Sub.of ⟨?_, rfl, rfl, rfl, trivial⟩, rfl⟩
          simp
        · simp; omega
      · have hw : w ≠ "with" := by simpa [clD] using hb
        have e : told1 w (.wth ns) = [] := by simp [told1, hw]
        rw [e, List.append_nil]
        exact .nil ⟨Sub.of ⟨rfl, rfl, rfl, rfl, trivial⟩, rfl⟩
      · refine WS.cons (WS1.iteF (WTs.toT (WTs.and_stop (WCmp.toT (WCmp.vv (WE.sub (WE.toC (WE.name rfl)) WE.int (SubV.tup (by decide) (by decide) rfl)) WE.str CmpV.str_eq)) rfl)) rfl ?_)
        refine .nil (.nil ⟨_, ?_, rfl, rfl⟩)
        exact Sub.of ⟨rfl, rfl, rfl, trivial⟩
    | prag v as =>
      have has : as.length ≤ 1000 := hn _ hmem
      refine WS.mid [ow "found" (.list ((toldBy w (ctx.take i)).map D.str)), fr "clause" (clD (.prag v as)), fr "word" (.str w), fr "context" (.list (ctx.map clD))] c1
        (WS1.ite (WTs.toT (WTs.and_cons (WCmp.toT (WCmp.vv (WE.name rfl) WE.str CmpV.str_eq)) fun _ => WTs.and_stop (WCmp.toT (WCmp.vv (WE.sub (WE.toC (WE.name rfl)) WE.int (SubV.tup (by decide) (by decide) rfl)) WE.str CmpV.str_eq)) rfl)) (fun hb => ?_) fun hb => ?_) ?_
      · simp at hb
      · exact .nil ⟨Sub.of ⟨rfl, rfl, rfl, rfl, trivial⟩, rfl⟩
      · refine WS.cons (WS1.ite (WTs.toT (WTs.and_cons (WCmp.toT (WCmp.vv (WE.sub (WE.toC (WE.name rfl)) WE.int (SubV.tup (by decide) (by decide) rfl)) WE.str CmpV.str_eq)) fun _ => WTs.and_cons (WCmp.toT (WCmp.vv (WE.sub (WE.toC (WE.name rfl)) WE.int (SubV.tup (by decide) (by decide) rfl)) (WE.name rfl) CmpV.str_eq)) fun _ => WTs.and_nil)) (fun hb => ?_) fun hb => ?_)
        · have hv : v = w := by simpa using hb
          have e : told1 w (.prag v as) = as.filterMap id := by simp [told1, hv]
          rw [e]
          have hl : (as.filterMap id).length ≤ as.length := List.length_filterMap_le ..
          refine WS.cons (WS1.augList (es := (as.filterMap id).map D.str) (c' := c1) (.inl rfl) rfl (WO.toE (WO.compO [] [] argD as Option.isSome (fun a => .str (a.getD "")) (WE.sub (WE.toC (WE.name rfl)) WE.int (SubV.tup (by decide) (by decide) rfl)) (.list _) (CompCx.of rfl trivial trivial)
            (fun C n hn => ?_) (fun C n hn hs => ?_) (by omega) ?_)) (.nil (.nil ⟨_, ?_, rfl, rfl⟩)) ?_)
          · cases n with
            | none => exact WTests.one (WCmp.toT (WCmp.vv (WE.sub (WE.toC (WE.sub (WE.toC (WE.name rfl)) WE.int (SubV.tup (by decide) (by decide) rfl))) WE.int (SubV.tup (by decide) (by decide) rfl)) WE.str CmpV.str_eq))
            | some n => exact WTests.one (WCmp.toT (WCmp.vv (WE.sub (WE.toC (WE.sub (WE.toC (WE.name rfl)) WE.int (SubV.tup (by decide) (by decide) rfl))) WE.int (SubV.tup (by decide) (by decide) rfl)) WE.str CmpV.str_eq))
          · cases n with
            | none => cases hs
            | some n => exact WE.sub (WE.toC (WE.sub (WE.toC (WE.name rfl)) WE.int (SubV.tup (by decide) (by decide) rfl))) WE.int (SubV.tup (by decide) (by decide) rfl)
          · clear hl has hmem hcl e
            induction as with
            | nil => rfl
            | cons a as ih => cases a <;> simpa using ih
          · refine Sub.of ⟨?_, rfl, rfl, trivial⟩
            simp
          · simp only [List.length_map]; omega
        · have hv : v ≠ w := by simpa [clD] using hb
          have e : told1 w (.prag v as) = [] := by simp [told1, hv]
          rw [e, List.append_nil]
          refine .nil (.nil ⟨_, ?_, rfl, rfl⟩)
          exact Sub.of ⟨rfl, rfl, rfl, trivial⟩
  · rintro ρ1 c1 ⟨rfl, rfl⟩
    rw [List.length_map, List.take_length]
    exact ⟨Sub.of ⟨rfl, trivial⟩, rfl⟩
  · exact WS.freeze (x := "found") rfl (WS.cons (WS1.ret (WE.name rfl) ⟨rfl, .inl rfl⟩))
end
end Mine
end

section
open PySem PySem.W PyProof.Rows
set_option linter.unusedVariables false
set_option maxRecDepth 100000
namespace Mine
variable {g : Cx} {k : Nat} {env : Env} {B Z Z' Z'' : Zm} {ad : Str → Addr} {ρ : Rho} {c c' c'' c1 c2 c3 : Int} {h h' h'' : Heap} {e l r : Expr} {d d1 d2 : D} {p p1 p2 p3 p4 p5 : Pos} {mg mb : Str → Option Value}
variable {K K' : Fl → Rho → Int → Prop} {ss : List Stmt} {st : Stmt}

/-- the text's i-th statement, a def, stands under its name -/
noncomputable def Has (g : Cx) (mg : Str → Option Value) (i : Nat) (x : Str) : Prop := ∃ fa fd, FnAt g mg x fa fd ∧ FnIs fd (fnAt i).2.2 (fnAt i).1 (fnAt i).2.1
/-- a call of the name x -/
noncomputable def Calls (g : Cx) (mg : Str → Option Value) (k : Nat) (x : Str) (ds : List D) (c : Int) (d : D) (c' : Int) : Prop := ∃ fa fd, FnAt g mg x fa fd ∧ FSpec g k fa ds c d c'
structure Pg (g : Cx) (mg mb : Str → Option Value) : Prop where
  G : Gd g mg mb
  item_name : Has g mg 1 "item_name"
  named_units : Has g mg 3 "named_units"
  is_body : Has g mg 4 "is_body"
  unit_part : Has g mg 5 "unit_part"
  places_of : Has g mg 10 "places_of"
  needs_of : Has g mg 11 "needs_of"
  all_needs : Has g mg 12 "all_needs"
  whole_needs : Has g mg 13 "whole_needs"
  reached_parts : Has g mg 14 "reached_parts"
  ring_of : Has g mg 15 "ring_of"
  order_parts : Has g mg 16 "order_parts"
  ring_text : Has g mg 17 "ring_text"
  tick : Has g mg 21 "_law_tick"
  word : Has g mg 22 "_law_word"
  clauses : Has g mg 23 "_law_clauses"
  text : Has g mg 24 "_law_text"
  walk : Has g mg 25 "_law_walk"
  due : Has g mg 26 "_law_due"
  ent : EntC g

noncomputable def Binds (i : Nat) (xs : List Str) : Prop := ∀ vs : List Value, vs.length = xs.length → ∀ fd : FuncData, fd.params = (fnAt i).1 → fd.defaults = .none → fd.kwdefaults = .none → bindArgs fd ⟨vs, []⟩ = pure (xs.zip vs)
theorem binds1 {i : Nat} {x : Str} (h : ∀ (a : Value) (fd : FuncData), fd.params = (fnAt i).1 → fd.defaults = .none → fd.kwdefaults = .none → bindArgs fd ⟨[a], []⟩ = pure [(x, a)]) : Binds i [x] := fun vs hl fd h1 h2 h3 => by
  match vs, hl with
  | [a], _ => exact h a fd h1 h2 h3
theorem binds2 {i : Nat} {x y : Str} (h : ∀ (a b : Value) (fd : FuncData), fd.params = (fnAt i).1 → fd.defaults = .none → fd.kwdefaults = .none → bindArgs fd ⟨[a, b], []⟩ = pure [(x, a), (y, b)]) : Binds i [x, y] := fun vs hl fd h1 h2 h3 => by
  match vs, hl with
  | [a, b], _ => exact h a b fd h1 h2 h3
theorem binds3 {i : Nat} {x y z : Str} (h : ∀ (a b c : Value) (fd : FuncData), fd.params = (fnAt i).1 → fd.defaults = .none → fd.kwdefaults = .none → bindArgs fd ⟨[a, b, c], []⟩ = pure [(x, a), (y, b), (z, c)]) : Binds i [x, y, z] := fun vs hl fd h1 h2 h3 => by
  match vs, hl with
  | [a, b, c], _ => exact h a b c fd h1 h2 h3
theorem binds_item_name : Binds 1 ["item"] := binds1 fun a fd h1 h2 h3 => by
  obtain ⟨n, q, ps, bd, sc, gl, cl, df, kd, doc, pm, an, cd, ct, bl⟩ := fd
  cases h1; cases h2; cases h3
  rfl
theorem binds_named_units : Binds 3 ["context", "word"] := binds2 fun a b fd h1 h2 h3 => by
  obtain ⟨n, q, ps, bd, sc, gl, cl, df, kd, doc, pm, an, cd, ct, bl⟩ := fd
  cases h1; cases h2; cases h3
  rfl
theorem binds_whole_needs : Binds 13 ["parts", "needs", "at"] := binds3 fun a b c fd h1 h2 h3 => by
  obtain ⟨n, q, ps, bd, sc, gl, cl, df, kd, doc, pm, an, cd, ct, bl⟩ := fd
  cases h1; cases h2; cases h3
  rfl

/-- what a def's frame needs -/
structure Frame (i : Nat) (xs : List Str) : Prop where
  bind : Binds i xs
  nodup : xs.Nodup
  kind : (fnAt i).2.2.kind = .function
  co : (fnAt i).2.2.isCoroutine = false
  gen : (fnAt i).2.2.isGenerator = false
  par : ∀ L, ∀ x ∈ xs, (fnAt i).2.2.names.lookup x = some .local ∨ ((fnAt i).2.2.names.lookup x = some .cell ∧ ((cellsFrom (L + 1) (fnAt i).2.2.names []).lookup x).isSome = true)
theorem Has.call {i : Nat} {x : Str} {xs : List Str} {ds : List D} (H : Has g mg i x) (G : Gd g mg mb) (F : Frame i xs) (hl : xs.length = ds.length) (b : BodyAt g k i xs ds c d c') : Calls g mg (k + 1) x ds c d c' :=
  let ⟨fa, fd, f1, f2⟩ := H; ⟨fa, fd, f1, FSpec.of_body G f1 f2 b F.bind hl F.nodup F.kind F.co F.gen F.par⟩
theorem WE.callC (G : Gd g mg mb) {x : Str} {e : Expr} {es : List Expr} {ds : List D} {kf : Nat} (F : Calls g mg kf x ds c1 d c2) (ha : WEs g k env ρ c (e :: es) ds c1) (hk : kf ≤ k) (hx : env.kindOf x = some .globalImplicit := by rfl)
    (hst : starEach (e :: es) env = (false, eval e env) :: starEach es env := by rfl) (hd : (x == ("__debug__" : Str)) = false := by decide) : WE g k env ρ c (.Call (.Name x p1) (e :: es) [] p2) d c2 :=
  let ⟨fa, fd, f1, f2⟩ := F; WE.call G f1 hx ha f2 hk hst hd

theorem frame_item_name : Frame 1 ["item"] := ⟨binds_item_name, by decide, rfl, rfl, rfl, fun L x hx => by simp at hx; subst hx; exact .inl rfl⟩
theorem frame_named_units : Frame 3 ["context", "word"] := ⟨binds_named_units, by decide, rfl, rfl, rfl, fun L x hx => by simp at hx; rcases hx with rfl | rfl <;> first | exact .inl rfl | exact .inr ⟨rfl, rfl⟩⟩
theorem frame_whole_needs : Frame 13 ["parts", "needs", "at"] := ⟨binds_whole_needs, by decide, rfl, rfl, rfl, fun L x hx => by simp at hx; rcases hx with rfl | rfl | rfl <;> first | exact .inl rfl | exact .inr ⟨rfl, rfl⟩⟩
end Mine
end

section
open PySem PySem.W PyProof.Rows
set_option linter.unusedVariables false
set_option maxRecDepth 100000
namespace Mine
variable {g : Cx} {k : Nat} {env : Env} {B Z Z' Z'' : Zm} {ad : Str → Addr} {ρ : Rho} {c c' c'' c1 c2 c3 : Int} {h h' h'' : Heap} {e l r : Expr} {d d1 d2 : D} {p p1 p2 p3 p4 p5 : Pos} {mg mb : Str → Option Value}
variable {K K' : Fl → Rho → Int → Prop} {ss : List Stmt} {st : Stmt}

section
variable {kind nm : Str} {x : D} {rest : List D} {es : List (Str × D)}
theorem item_name_call (P : Pg g mg mb) (hk : kind = "package" ∨ kind = "packbody") : Calls g mg 1 "item_name" [.tup (.str kind :: x :: .str nm :: rest)] c (.str nm) c :=
  P.item_name.call (k := 0) P.G frame_item_name rfl (body_item_name hk)

theorem binds_is_body : Binds 4 ["declaration", "library"] := binds2 fun a b fd h1 h2 h3 => by
  obtain ⟨n, q, ps, bd, sc, gl, cl, df, kd, doc, pm, an, cd, ct, bl⟩ := fd
  cases h1; cases h2; cases h3
  rfl
theorem frame_is_body : Frame 4 ["declaration", "library"] := ⟨binds_is_body, by decide, rfl, rfl, rfl, fun L x hx => by simp at hx; rcases hx with rfl | rfl <;> first | exact .inl rfl | exact .inr ⟨rfl, rfl⟩⟩
theorem body_is_body (P : Pg g mg mb) (hk : kind = "package" ∨ (kind = "packbody" ∧ es.lookup nm = some .ent)) : BodyAt g 1 4 ["declaration", "library"] [.tup (.str kind :: x :: .str nm :: rest), .dS es] c (.bool (kind == "packbody")) c := fun L a q code => by
  refine WS.cons (WS1.assign (.inl rfl) (WE.callC P.G (item_name_call P (hk.imp id (·.1))) (.cons (WE.name rfl) .nil) (by decide)) ?_)
  rcases hk with rfl | ⟨rfl, hl⟩
  · refine WS.cons (WS1.ret (WE.and (WBs.cons (b' := false) (WCmp.toE (WCmp.vc (WE.sub (WE.toC (WE.name rfl)) WE.int (SubV.tup (by decide) (by decide) rfl)) (WE.toC (WE.tup (.cons WE.str (.cons WE.str .nil)))) (CmpC.in_tup rfl))) fun h => absurd h (by decide))) ?_)
    exact ⟨rfl, .inl rfl⟩
  · refine WS.cons (WS1.ret (WE.and (WBs.cons (WCmp.toE (WCmp.vc (WE.sub (WE.toC (WE.name rfl)) WE.int (SubV.tup (by decide) (by decide) rfl)) (WE.toC (WE.tup (.cons WE.str (.cons WE.str .nil)))) (CmpC.in_tup rfl))) fun _ =>
      WBs.cons (WCmp.toE (WCmp.vc (WE.name rfl) (WE.toC (WE.name rfl)) CmpC.in_dS)) fun _ => WBs.one (WE.not (WE.complete P.ent (WE.sub (WE.toC (WE.name rfl)) (WE.name rfl) (SubV.dS hl)))))) ?_)
    refine ⟨rfl, .inl ?_⟩
    rw [hl]; rfl

theorem binds_unit_part : Binds 5 ["unit", "library"] := binds2 fun a b fd h1 h2 h3 => by
  obtain ⟨n, q, ps, bd, sc, gl, cl, df, kd, doc, pm, an, cd, ct, bl⟩ := fd
  cases h1; cases h2; cases h3
  rfl
theorem frame_unit_part : Frame 5 ["unit", "library"] := ⟨binds_unit_part, by decide, rfl, rfl, rfl, fun L x hx => by simp at hx; rcases hx with rfl | rfl <;> first | exact .inl rfl | exact .inr ⟨rfl, rfl⟩⟩

structure CtxOk (ctx : List CL) : Prop where
  len : ∀ w, (toldBy w ctx).length ≤ 1000
  each : ∀ cl ∈ ctx, match cl with | .wth ns => ns.length ≤ 1000 | .prag _ as => as.length ≤ 1000
theorem named_units_call (P : Pg g mg mb) {ctx : List CL} (h : CtxOk ctx) (w : Str) : Calls g mg 1 "named_units" [.list (ctx.map clD), .str w] c (.list ((toldBy w ctx).map D.str)) c :=
  P.named_units.call (k := 0) P.G frame_named_units rfl (body_named_units (h.len w) h.each)
theorem is_body_call (P : Pg g mg mb) (hk : kind = "package" ∨ (kind = "packbody" ∧ es.lookup nm = some .ent)) : Calls g mg 2 "is_body" [.tup (.str kind :: x :: .str nm :: rest), .dS es] c (.bool (kind == "packbody")) c :=
  P.is_body.call (k := 1) P.G frame_is_body rfl (body_is_body P hk)

noncomputable def inStrs (xs : List Str) (n : Str) : Bool := (xs.map D.str).any fun d => d.same (.str n)
noncomputable def withsOf (ctx : List CL) (nm : Str) : List Str := (toldBy "with" ctx).filter fun n => n != "text_io" && (n != nm && true)
noncomputable def wantsOf (w : Str) (ctx : List CL) (nm : Str) : List Str := (toldBy w ctx).filter (inStrs (withsOf ctx nm))
noncomputable def unitD (ctx : List CL) (kind nm : Str) (x : D) (rest : List D) : D := .tup [.str "unit", .int 1, .list (ctx.map clD), .tup (.str kind :: x :: .str nm :: rest)]
noncomputable def partD (nm : Str) (body : Bool) (withs wanted whole : List Str) : D := .tup ([.str nm, .str (if body then "body" else "spec"), .list (withs.map .str), .list (wanted.map .str)] ++ whole.map .str)

theorem kinds_strs (xs : List Str) (n : Str) : ((xs.map D.str).all fun d => d.kind == (D.str n).kind) = true := by simp [D.kind]

theorem body_unit_part (P : Pg g mg mb) {ctx : List CL} (hc : CtxOk ctx) (hk : kind = "package" ∨ (kind = "packbody" ∧ es.lookup nm = some .ent)) : BodyAt g 2 5 ["unit", "library"] [unitD ctx kind nm x rest, .dS es] c
    (partD nm (kind == "packbody") (withsOf ctx nm) (wantsOf "elaborate" ctx nm) (wantsOf "elaborate_all" ctx nm)) c := fun L a q code => by
  have hsl : sizeLine = 16777216 := rfl
  refine WS.cons (WS1.assign (.inl rfl) (WE.sub (WE.toC (WE.name rfl)) WE.int (SubV.tup (by decide) (by decide) rfl)) ?_)
  refine WS.cons (WS1.assign (.inr ⟨rfl, rfl⟩) (WE.callC P.G (item_name_call P (hk.imp id (·.1))) (.cons (WE.sub (WE.toC (WE.name rfl)) WE.int (SubV.tup (by decide) (by decide) rfl)) .nil) (by decide)) ?_)
  have l1 := hc.len "with"
  have l2 := hc.len "elaborate"
  have l3 := hc.len "elaborate_all"
  have l4 : (wantsOf "elaborate_all" ctx nm).length ≤ (toldBy "elaborate_all" ctx).length := List.length_filter_le ..
  refine WS.cons (WS1.assignO (.inr ⟨rfl, rfl⟩) (WO.compO [fr "name" (.str nm)] [("name", L + 1)] D.str (toldBy "with" ctx) (fun n => n != "text_io" && (n != nm && true)) D.str (out := (withsOf ctx nm).map D.str)
    (WE.callC P.G (named_units_call P hc "with") (.cons (WE.name rfl) (.cons WE.str .nil)) (by decide)) (.list _) (CompCx.of rfl ⟨⟨rfl, .inl rfl, rfl, .inl rfl, rfl⟩, trivial⟩ ⟨rfl, trivial⟩)
    (fun C n hn => WTests.one (WTs.toT (WTs.and_cons (WCmp.toT (WCmp.vv (WE.name rfl) WE.str CmpV.str_ne)) fun _ => WTs.and_cons (WCmp.toT (WCmp.vv (WE.name rfl) (WE.name rfl) CmpV.str_ne)) fun _ => WTs.and_nil)))
    (fun C n hn _ => WE.name rfl) (by omega) rfl) ?_)
  refine WS.cons (WS1.assignCompO [ow "withs" (.list ((withsOf ctx nm).map D.str))] [("withs", L + 2)] D.str (toldBy "elaborate" ctx) (inStrs (withsOf ctx nm)) D.str (out := (wantsOf "elaborate" ctx nm).map D.str)
    (WE.callC P.G (named_units_call P hc "elaborate") (.cons (WE.name rfl) (.cons WE.str .nil)) (by decide)) (.list _) (CompCx.of rfl ⟨⟨rfl, .inl rfl, rfl, .inl rfl, rfl⟩, trivial⟩ ⟨rfl, trivial⟩)
    (fun C n hn => WTests.one (WCmp.toT (WCmp.vc (WE.name rfl) (WC.name rfl) (CmpC.in_list (kinds_strs _ _)))))
    (fun C n hn _ => WE.name rfl) (by omega) rfl (.inl rfl) ?_)
  refine WS.cons (WS1.assignCompO [ow "withs" (.list ((withsOf ctx nm).map D.str))] [("withs", L + 2)] D.str (toldBy "elaborate_all" ctx) (inStrs (withsOf ctx nm)) D.str (out := (wantsOf "elaborate_all" ctx nm).map D.str)
    (WE.callC P.G (named_units_call P hc "elaborate_all") (.cons (WE.name rfl) (.cons WE.str .nil)) (by decide)) (.list _) (CompCx.of rfl ⟨⟨rfl, .inl rfl, rfl, .inl rfl, rfl⟩, trivial⟩ ⟨rfl, trivial⟩)
    (fun C n hn => WTests.one (WCmp.toT (WCmp.vc (WE.name rfl) (WC.name rfl) (CmpC.in_list (kinds_strs _ _)))))
    (fun C n hn _ => WE.name rfl) (by omega) rfl (.inl rfl) ?_)
  refine WS.freeze (x := "withs") rfl (WS.freeze (x := "wanted") rfl ?_)
  refine WS.cons (WS1.ret (WE.binop (WE.tup (.cons (WE.name rfl) (.cons (WE.ifexp (d := .str (if (kind == "packbody") = true then "body" else "spec")) (WT.val (WE.callC P.G (is_body_call P hk) (.cons (WE.sub (WE.toC (WE.name rfl)) WE.int (SubV.tup (by decide) (by decide) rfl)) (.cons (WE.name rfl) .nil)) (by decide)))
    (fun h => by rw [if_pos h]; exact WE.str) (fun h => by rw [if_neg (by rw [h]; decide)]; exact WE.str)) (.cons (WE.name rfl) (.cons (WE.name rfl) .nil))))) (WE.tupOf P.G rfl (WC.name rfl) ?_) (OpV.tup_add ?_ (by simp))) ⟨rfl, .inl rfl⟩)
  · simp only [List.length_map]; omega
  · simp only [List.length_map, List.length_cons, List.length_nil]; omega
theorem unit_part_call (P : Pg g mg mb) {ctx : List CL} (hc : CtxOk ctx) (hk : kind = "package" ∨ (kind = "packbody" ∧ es.lookup nm = some .ent)) : Calls g mg 3 "unit_part" [unitD ctx kind nm x rest, .dS es] c
    (partD nm (kind == "packbody") (withsOf ctx nm) (wantsOf "elaborate" ctx nm) (wantsOf "elaborate_all" ctx nm)) c :=
  P.unit_part.call (k := 2) P.G frame_unit_part rfl (body_unit_part P hc hk)
end
end Mine
end

section
open PySem PySem.W PyProof.Rows
set_option linter.unusedVariables false
set_option maxRecDepth 100000
namespace Mine
variable {g : Cx} {k : Nat} {env : Env} {B Z Z' Z'' : Zm} {ad : Str → Addr} {ρ : Rho} {c c' c'' c1 c2 c3 : Int} {h h' h'' : Heap} {e l r : Expr} {d d1 d2 : D} {p p1 p2 p3 p4 p5 : Pos} {mg mb : Str → Option Value}
variable {K K' : Fl → Rho → Int → Prop} {ss : List Stmt} {st : Stmt}

/-! parts -/
structure Part where
  nm : Str
  body : Bool
  withs : List Str
  wanted : List Str
  whole : List Str
noncomputable def sortS (b : Bool) : Str := if b then "body" else "spec"
noncomputable def Part.key (p : Part) : Str × Str := (p.nm, sortS p.body)
noncomputable def Part.enc (p : Part) : D := partD p.nm p.body p.withs p.wanted p.whole
noncomputable def keyD (k : Str × Str) : D := .tup [.str k.1, .str k.2]
noncomputable def keysOf (parts : List Part) : List (Str × Str) := parts.map Part.key
noncomputable def partsD (parts : List Part) : D := .list (parts.map Part.enc)
/-- the places of the parts, from number i on -/
noncomputable def plcFrom : Nat → List Part → List ((Str × Str) × D)
  | _, [] => []
  | i, p :: ps => (p.key, .int i) :: plcFrom (i + 1) ps
noncomputable def plc (parts : List Part) : List ((Str × Str) × D) := plcFrom 0 parts
theorem plcFrom_length : ∀ (i : Nat) (ps : List Part), (plcFrom i ps).length = ps.length
  | _, [] => rfl
  | i, p :: ps => by simp [plcFrom, plcFrom_length (i + 1) ps]
theorem plcFrom_append : ∀ (i : Nat) (ps qs : List Part), plcFrom i (ps ++ qs) = plcFrom i ps ++ plcFrom (i + ps.length) qs
  | i, [], qs => by simp [plcFrom]
  | i, p :: ps, qs => by
    simp only [List.cons_append, plcFrom, List.length_cons, plcFrom_append (i + 1) ps qs]
    rw [show i + 1 + ps.length = i + (ps.length + 1) by omega]
theorem plcFrom_none {k : Str × Str} : ∀ {i : Nat} {ps : List Part}, k ∉ keysOf ps → (plcFrom i ps).lookup k = none
  | _, [], _ => rfl
  | i, p :: ps, h => by
    simp only [keysOf, List.map_cons, List.mem_cons, not_or] at h
    rw [plcFrom, List.lookup_cons]
    have : (k == p.key) = false := beq_eq_false_iff_ne.mpr h.1
    rw [this]
    exact plcFrom_none (ps := ps) h.2
theorem plcFrom_some {k : Str × Str} : ∀ {i : Nat} {ps : List Part}, k ∈ keysOf ps → (plcFrom i ps).lookup k = some (.int ((i + (keysOf ps).idxOf k : Nat) : Int))
  | _, [], h => by simp [keysOf] at h
  | i, p :: ps, h => by
    rw [plcFrom, List.lookup_cons]
    by_cases hk : k = p.key
    · subst hk; simp [keysOf]
    · have : (k == p.key) = false := beq_eq_false_iff_ne.mpr hk
      rw [this]
      have hm : k ∈ keysOf ps := by simpa [keysOf, hk] using h
      have ih := plcFrom_some (i := i + 1) hm
      rw [ih]
      have : (keysOf (p :: ps)).idxOf k = (keysOf ps).idxOf k + 1 := by
        simp only [keysOf, List.map_cons]
        rw [List.idxOf_cons]
        have : (p.key == k) = false := beq_eq_false_iff_ne.mpr (Ne.symm hk)
        rw [this]; rfl
      rw [this, show i + 1 + (keysOf ps).idxOf k = i + ((keysOf ps).idxOf k + 1) by omega]
theorem plc_isSome {k : Str × Str} {ps : List Part} : ((plc ps).lookup k).isSome = decide (k ∈ keysOf ps) := by
  by_cases h : k ∈ keysOf ps
  · unfold plc; rw [plcFrom_some h]; simp [h]
  · unfold plc; rw [plcFrom_none h]; simp [h]

theorem plcFrom_mem {e : (Str × Str) × D} : ∀ {i : Nat} {ps : List Part}, e ∈ plcFrom i ps → ∃ p ∈ ps, e.1 = p.key
  | _, [], h => by simp [plcFrom] at h
  | i, p :: ps, h => by
    rcases List.mem_cons.mp h with rfl | h
    · exact ⟨p, List.mem_cons_self .., rfl⟩
    · obtain ⟨q, hq, e⟩ := plcFrom_mem h
      exact ⟨q, List.mem_cons_of_mem _ hq, e⟩
theorem plc_mem {e : (Str × Str) × D} {ps : List Part} (h : e ∈ plc ps) : ∃ p ∈ ps, e.1 = p.key := plcFrom_mem h

structure GoodParts (parts : List Part) : Prop where
  nodup : (keysOf parts).Nodup
  spec : ∀ p ∈ parts, (p.nm, ("spec" : Str)) ∈ keysOf parts
  withs : ∀ p ∈ parts, ∀ o ∈ p.withs, (o, ("spec" : Str)) ∈ keysOf parts
  wants : ∀ p ∈ parts, ∀ o ∈ p.wanted ++ p.whole, o ∈ p.withs
  len : parts.length ≤ 50
  each : ∀ p ∈ parts, p.withs.length + p.wanted.length + p.whole.length ≤ 100
  nmlen : ∀ p ∈ parts, p.nm.length ≤ 100

theorem binds_places_of : Binds 10 ["parts"] := binds1 fun a fd h1 h2 h3 => by
  obtain ⟨n, q, ps, bd, sc, gl, cl, df, kd, doc, pm, an, cd, ct, bl⟩ := fd
  cases h1; cases h2; cases h3
  rfl
theorem frame_places_of : Frame 10 ["parts"] := ⟨binds_places_of, by decide, rfl, rfl, rfl, fun L x hx => by simp at hx; subst hx; exact .inl rfl⟩

/-- a list of the parts, item i -/
theorem parts_at {parts : List Part} {i : Nat} (hi : i < parts.length) : (parts.map Part.enc)[(i : Int).toNat]? = some (parts[i].enc) := by simp [hi]
theorem put_dT {es : List ((Str × Str) × D)} {x y : Str} (hn : es.lookup (x, y) = none) (hl : es.length ≤ sizeLine) : Put (.dT es) (.tup [.str x, .str y]) d (.dT (es ++ [((x, y), d)])) := .inr (.inr ⟨x, y, es, rfl, rfl, hn, hl, rfl⟩)

theorem body_places_of (P : Pg g mg mb) {parts : List Part} (G : GoodParts parts) : BodyAt g k 10 ["parts"] [partsD parts] c (.dT (plc parts)) c := fun L a q code => by
  have hsl : sizeLine = 16777216 := rfl
  have hlen := G.len
  refine WS.mid [ow "found" (.dT []), fr "parts" (partsD parts)] c (WS1.assignO (.inl rfl) (WO.dict P.G).2.2 ⟨Sub.of ⟨rfl, rfl, trivial⟩, rfl⟩) ?_
  refine WS.mid [ow "found" (.dT (plc parts)), fr "parts" (partsD parts)] c (WS1.forIn (WE.range (n := parts.length) P.G rfl (WE.len P.G rfl (WE.toC (WE.name rfl)) (.inl ⟨_, rfl, List.length_map ..⟩) (by omega)) (by omega)) (.rng _)
    (fun i ρ c1 => ρ = [ow "found" (.dT (plc (parts.take i))), fr "parts" (partsD parts)] ∧ c1 = c) ⟨_, fun _ _ h => h, rfl, rfl⟩ ?_ ?_) ?_
  · rintro i d1 ρ1 c1 hd ⟨rfl, rfl⟩
    rw [List.getElem?_map, Option.map_eq_some_iff] at hd
    obtain ⟨j, hj, rfl⟩ := hd
    have hi : i < parts.length := by
      have := (List.getElem?_eq_some_iff.mp hj).1; simpa using this
    have : j = i := by simpa [hi] using hj.symm
    subst this
    have hd2 := parts_at hi
    generalize hp : parts[j] = pt at hd2
    have hnk : pt.key ∉ keysOf (parts.take j) := fun hm => by
      have h1 := G.nodup
      have e : keysOf parts = keysOf (parts.take j) ++ keysOf (parts.drop j) := by unfold keysOf; rw [← List.map_append, List.take_append_drop]
      have e2 : parts.drop j = pt :: parts.drop (j + 1) := by rw [← hp]; exact List.drop_eq_getElem_cons hi
      rw [e, e2, List.nodup_append] at h1
      exact h1.2.2 _ hm _ (by simp [keysOf]) rfl
    have hfr : (plc (parts.take j)).lookup (pt.nm, sortS pt.body) = none := plcFrom_none hnk
    refine ⟨_, WA.name (.inl rfl), ?_⟩
    have hj63 : (j : Int) < 2 ^ 63 := by omega
    refine WS.cons (WS1.assign (.inl rfl) (WE.tup (.cons (WE.sub (WE.toC (WE.sub (WE.toC (WE.name rfl)) (WE.name rfl) (SubV.list (by omega) hj63 hd2))) WE.int (SubV.tup (by decide) (by decide) rfl))
      (.cons (WE.sub (WE.toC (WE.sub (WE.toC (WE.name rfl)) (WE.name rfl) (SubV.list (by omega) hj63 hd2))) WE.int (SubV.tup (by decide) (by decide) rfl)) .nil))) ?_)
    refine WS.cons (WS1.iteF (WCmp.toT (WCmp.vc (WE.name rfl) (WC.name rfl) CmpC.in_dT)) (by exact (congrArg Option.isSome hfr)) (.nil ?_))
    refine WS.cons (WS1.put (d := .int j) rfl (WE.name rfl) (WE.name rfl) (put_dT hfr (by unfold plc; rw [plcFrom_length, List.length_take]; omega)) (.nil ⟨_, ?_, rfl, rfl⟩))
    refine Sub.of ⟨?_, rfl, trivial⟩
    have : plc (parts.take (j + 1)) = plc (parts.take j) ++ [((pt.nm, sortS pt.body), .int j)] := by
      unfold plc
      rw [List.take_add_one, List.getElem?_eq_getElem hi, hp, plcFrom_append]
      simp [plcFrom, Part.key, Nat.min_eq_left (Nat.le_of_lt hi)]
    rw [this]; rfl
  · rintro ρ1 c1 ⟨rfl, rfl⟩
    rw [List.length_map, List.length_range, List.take_length]
    exact ⟨fun _ _ h => h, rfl⟩
  · refine WS.freeze (x := "found") rfl ?_
    refine WS.mid [fr "found" (.dT (plc parts))] c (WS1.forIn (WE.name rfl) (.dT _) (fun i ρ c1 => ρ = [fr "found" (.dT (plc parts))] ∧ c1 = c) ⟨_, ?_, rfl, rfl⟩ ?_ ?_) ?_
    · exact Sub.of ⟨rfl, trivial⟩
    · rintro i d1 ρ1 c1 hd ⟨rfl, rfl⟩
      rw [List.getElem?_map, Option.map_eq_some_iff] at hd
      obtain ⟨e, he, rfl⟩ := hd
      refine ⟨_, WA.tup (.cons (.inl rfl) (.cons (.inl rfl) .nil)), ?_⟩
      obtain ⟨pt, hpt, hk⟩ := plc_mem (List.mem_of_getElem? he)
      obtain ⟨⟨x, y⟩, v⟩ := e
      cases hk
      have hsp := G.spec pt hpt
      cases hb : pt.body with
      | false =>
        refine WS.cons (WS1.iteF (WTs.toT (WTs.and_stop (WCmp.toT (WCmp.vv (WE.name rfl) WE.str CmpV.str_eq)) rfl)) rfl (.nil (.nil ⟨_, ?_, rfl, rfl⟩)))
        exact Sub.of ⟨rfl, trivial⟩
      | true =>
        refine WS.cons (WS1.iteF (WTs.toT (WTs.and_cons (WCmp.toT (WCmp.vv (WE.name rfl) WE.str CmpV.str_eq)) fun _ => WTs.and_stop (WCmp.toT (WCmp.vc (WE.tup (.cons (WE.name rfl) (.cons WE.str .nil))) (WE.toC (WE.name rfl)) CmpC.notIn_dT)) (by rw [plc_isSome]; simp [hsp]))) (by simp) (.nil (.nil ⟨_, ?_, rfl, rfl⟩)))
        exact Sub.of ⟨rfl, trivial⟩
    · rintro ρ1 c1 ⟨rfl, rfl⟩
      exact ⟨Sub.of ⟨rfl, trivial⟩, rfl⟩
    · exact WS.cons (WS1.ret (WE.name rfl) ⟨rfl, .inl rfl⟩)
end Mine
end

section
open PySem PySem.W PyProof.Rows
set_option linter.unusedVariables false
set_option maxRecDepth 100000
namespace Mine
variable {g : Cx} {k : Nat} {env : Env} {B Z Z' Z'' : Zm} {ad : Str → Addr} {ρ : Rho} {c c' c'' c1 c2 c3 : Int} {h h' h'' : Heap} {e l r : Expr} {d d1 d2 : D} {p p1 p2 p3 p4 p5 : Pos} {mg mb : Str → Option Value}
variable {K K' : Fl → Rho → Int → Prop} {ss : List Stmt} {st : Stmt}

noncomputable abbrev spK (o : Str) : Str × Str := (o, "spec")
noncomputable abbrev bdK (o : Str) : Str × Str := (o, "body")
noncomputable def specKeys (xs : List Str) : List (Str × Str) := xs.map spK
noncomputable def bodyKeys (parts : List Part) (xs : List Str) : List (Str × Str) := (xs.filter fun o => decide (bdK o ∈ keysOf parts)).map bdK
/-- the keys that a part needs, in the code's order -/
noncomputable def nkeys (parts : List Part) (p : Part) : List (Str × Str) := (if p.body then [spK p.nm] else []) ++ specKeys p.withs ++ bodyKeys parts (p.wanted ++ p.whole)
noncomputable def addNew (l : List Nat) (x : Nat) : List Nat := if x ∈ l then l else l ++ [x]
noncomputable def placeOf (parts : List Part) (k : Str × Str) : Nat := (keysOf parts).idxOf k
noncomputable def needsOf (parts : List Part) (p : Part) : List Nat := (nkeys parts p).foldl (fun l k => addNew l (placeOf parts k)) []
noncomputable def intsOf (l : List Nat) : List Int := l.map fun n : Nat => (n : Int)
noncomputable def natsD (l : List Nat) : D := .list ((intsOf l).map D.int)

theorem binds_needs_of : Binds 11 ["parts", "places", "at"] := binds3 fun a b c fd h1 h2 h3 => by
  obtain ⟨n, q, ps, bd, sc, gl, cl, df, kd, doc, pm, an, cd, ct, bl⟩ := fd
  cases h1; cases h2; cases h3
  rfl
theorem frame_needs_of : Frame 11 ["parts", "places", "at"] := ⟨binds_needs_of, by decide, rfl, rfl, rfl, fun L x hx => by simp at hx; rcases hx with rfl | rfl | rfl <;> first | exact .inl rfl | exact .inr ⟨rfl, rfl⟩⟩
theorem places_of_call (P : Pg g mg mb) {parts : List Part} (G : GoodParts parts) : Calls g mg 1 "places_of" [partsD parts] c (.dT (plc parts)) c := P.places_of.call (k := 0) P.G frame_places_of rfl (body_places_of P G)

theorem nkeys_len {parts : List Part} {p : Part} : (nkeys parts p).length ≤ 1 + (p.withs.length + p.wanted.length + p.whole.length) := by
  unfold nkeys specKeys bodyKeys
  have := List.length_filter_le (fun o => decide (bdK o ∈ keysOf parts)) (p.wanted ++ p.whole)
  simp only [List.length_append, List.length_map] at this ⊢
  split <;> simp only [List.length_append, List.length_map, List.length_cons, List.length_nil] <;> omega
theorem nkeys_mem {parts : List Part} (G : GoodParts parts) {p : Part} (hp : p ∈ parts) {k : Str × Str} (h : k ∈ nkeys parts p) : k ∈ keysOf parts := by
  unfold nkeys specKeys bodyKeys at h
  rcases List.mem_append.mp h with h | h
  · rcases List.mem_append.mp h with h | h
    · split at h
      · rw [List.mem_singleton.mp h]; exact G.spec p hp
      · cases h
    · obtain ⟨o, ho, rfl⟩ := List.mem_map.mp h
      exact G.withs p hp o ho
  · obtain ⟨o, ho, rfl⟩ := List.mem_map.mp h
    simpa using (List.mem_filter.mp ho).2
theorem bodyKeys_succ {parts : List Part} {xs : List Str} {i : Nat} {o : Str} (h : xs[i]? = some o) : bodyKeys parts (xs.take (i + 1)) = bodyKeys parts (xs.take i) ++ (if bdK o ∈ keysOf parts then [bdK o] else []) := by
  unfold bodyKeys
  rw [List.take_add_one, h, List.filter_append, List.map_append]
  by_cases hb : bdK o ∈ keysOf parts <;> simp [hb]
theorem inStrs_iff {xs : List Str} {n : Str} : inStrs xs n = decide (n ∈ xs) := by
  unfold inStrs
  induction xs with
  | nil => rfl
  | cons x xs ih =>
    rw [List.map_cons, List.any_cons, ih]
    show ((x == n) || decide (n ∈ xs)) = _
    by_cases h : x = n
    · simp [h]
    · have h' : ¬ n = x := fun e => h e.symm
      have hb : (x == n) = false := beq_eq_false_iff_ne.mpr h
      simp [h', hb]
theorem natsD_any (l : List Nat) (x : Nat) : (((intsOf l).map D.int).any fun d => d.same (.int x)) = decide (x ∈ l) := by
  induction l with
  | nil => rfl
  | cons y l ih =>
    show (D.same (.int y) (.int x) || ((intsOf l).map D.int).any fun d => d.same (.int x)) = _
    rw [ih]
    show (((y : Int) == (x : Int)) || decide (x ∈ l)) = _
    by_cases h : y = x
    · simp [h]
    · have h' : ¬ x = y := fun e => h e.symm
      have hb : ((y : Int) == (x : Int)) = false := beq_eq_false_iff_ne.mpr fun e => h (by omega)
      simp [h', hb]
theorem kinds_nats (l : List Nat) (x : Int) : (((intsOf l).map D.int).all fun d => d.kind == (D.int x).kind) = true := by simp [D.kind]
theorem foldl_addNew_len {parts : List Part} : ∀ (ks : List (Str × Str)) (l : List Nat), (ks.foldl (fun l k => addNew l (placeOf parts k)) l).length ≤ l.length + ks.length
  | [], l => by simp
  | k :: ks, l => by
    have := foldl_addNew_len (parts := parts) ks (addNew l (placeOf parts k))
    have h2 : (addNew l (placeOf parts k)).length ≤ l.length + 1 := by unfold addNew; split <;> simp
    simp only [List.foldl_cons, List.length_cons]; omega

theorem body_needs_of (P : Pg g mg mb) {parts : List Part} (G : GoodParts parts) {i : Nat} (hi : i < parts.length) : BodyAt g k 11 ["parts", "places", "at"] [partsD parts, .dT (plc parts), .int i] c (natsD (needsOf parts parts[i])) c := fun L a q code => by
  have hsl : sizeLine = 16777216 := rfl
  have hlen := G.len
  have hd2 := parts_at hi
  have hpm : parts[i] ∈ parts := List.getElem_mem hi
  generalize hp : parts[i] = pt at hd2 hpm
  have heach := G.each pt hpm
  have hi63 : (i : Int) < 2 ^ 63 := by omega
  have hat : ∀ {ρ : Rho} {v0 v1 p : Pos} {env}, ρ.lookup ("parts" : Str) = some (.f (partsD parts)) → ρ.lookup ("at" : Str) = some (.f (.int i)) → WE g k env ρ c (.Subscript (.Name "parts" v0) (.Name "at" v1) p) pt.enc c := fun h1 h2 => WE.sub (WE.toC (WE.name h1)) (WE.name h2) (SubV.list (by omega) hi63 hd2)
  let R : List (Str × Str) → Rho := fun ks => [ow "keys" (.list (ks.map keyD)), fr "elaborates" (.list (pt.wanted.map .str)), fr "withs" (.list (pt.withs.map .str)), fr "sort" (.str (sortS pt.body)), fr "name" (.str pt.nm), fr "parts" (partsD parts), fr "places" (.dT (plc parts)), fr "at" (.int i)]
  refine WS.cons (WS1.assignTup (ds := [.str pt.nm, .str (sortS pt.body), .list (pt.withs.map .str), .list (pt.wanted.map .str)]) (.cons (.inl rfl) (.cons (.inl rfl) (.cons (.inl rfl) (.cons (.inl rfl) .nil))))
    (WE.tupTo (b := 4) (hat rfl rfl) WE.int (by simp; omega)) ?_)
  refine WS.mid (R []) c (WS1.assignO (.inl rfl) (WO.list .nil) ⟨Sub.of ⟨rfl, rfl, rfl, rfl, rfl, rfl, rfl, rfl, trivial⟩, rfl⟩) ?_
  refine WS.mid (R (if pt.body then [spK pt.nm] else [])) c (WS1.ite (WCmp.toT (WCmp.vv (WE.name rfl) WE.str CmpV.str_eq)) (fun hb => ?_) fun hb => ?_) ?_
  · have hb : pt.body = true := by
      cases h : pt.body with
      | true => rfl
      | false => rw [h] at hb; cases hb
    refine WS.cons (WS1.append rfl (WE.tup (.cons (WE.name rfl) (.cons WE.str .nil))) (.nil ⟨?_, rfl⟩) (by simp))
    rw [if_pos hb]
    exact Sub.of ⟨rfl, rfl, rfl, rfl, rfl, rfl, rfl, rfl, trivial⟩
  · have hb : pt.body = false := by
      cases h : pt.body with
      | false => rfl
      | true => rw [h] at hb; cases hb
    refine .nil ⟨?_, rfl⟩
    rw [if_neg (by rw [hb]; decide)]
    exact fun _ _ h => h
  generalize hbs : (if pt.body then [spK pt.nm] else []) = base
  have hbl : base.length ≤ 1 := by rw [← hbs]; split <;> simp
  refine WS.mid (R (base ++ specKeys pt.withs)) c (WS1.forIn (WE.name rfl) (.list _) (fun j ρ c1 => ρ = R (base ++ specKeys (pt.withs.take j)) ∧ c1 = c) ⟨R base, fun _ _ h => h, by simp [specKeys], rfl⟩ ?_ ?_) ?_
  · rintro j d1 ρ1 c1 hd ⟨rfl, rfl⟩
    rw [List.getElem?_map, Option.map_eq_some_iff] at hd
    obtain ⟨o, ho, rfl⟩ := hd
    have hom := List.mem_of_getElem? ho
    refine ⟨_, WA.name (.inl rfl), ?_⟩
    refine WS.cons (WS1.iteF (WCmp.toT (WCmp.vc (WE.tup (.cons (WE.name rfl) (.cons WE.str .nil))) (WE.toC (WE.name rfl)) CmpC.notIn_dT)) (by rw [plc_isSome]; simp [G.withs pt hpm o hom]) (.nil ?_))
    refine WS.cons (WS1.append rfl (WE.tup (.cons (WE.name rfl) (.cons WE.str .nil))) (.nil ⟨_, ?_, rfl, rfl⟩) (by simp [specKeys]; omega))
    refine Sub.of ⟨?_, rfl, rfl, rfl, rfl, rfl, rfl, rfl, trivial⟩
    rw [List.take_add_one, ho]
    simp [specKeys, keyD]
  · rintro ρ1 c1 ⟨rfl, rfl⟩
    rw [List.length_map, List.take_length]
    exact ⟨fun _ _ h => h, rfl⟩
  refine WS.mid (R (nkeys parts pt)) c (WS1.forIn (d := .list ((pt.wanted ++ pt.whole).map .str)) (c1 := c) ?_ (.list _) (fun j ρ c1 => ρ = R (base ++ specKeys pt.withs ++ bodyKeys parts ((pt.wanted ++ pt.whole).take j)) ∧ c1 = c) ⟨R (base ++ specKeys pt.withs), fun _ _ h => h, by simp [bodyKeys], rfl⟩ ?_ ?_) ?_
  · rw [List.map_append]
    exact WO.toE (WO.binop (WE.name rfl) (WO.toE (WO.listOf P.G rfl (WE.toC (WE.tupFrom (b := 4) (hat rfl rfl) WE.int (by decide) (by simp) (by simp; omega))) (by simp; omega))) (OpO.list_add (by simp; omega)))
  · rintro j d1 ρ1 c1 hd ⟨rfl, rfl⟩
    rw [List.getElem?_map, Option.map_eq_some_iff] at hd
    obtain ⟨o, ho, rfl⟩ := hd
    have hom := List.mem_of_getElem? ho
    have hw := G.wants pt hpm o hom
    have hl1 : (bodyKeys parts ((pt.wanted ++ pt.whole).take j)).length ≤ 100 := by
      unfold bodyKeys
      have := List.length_filter_le (fun o => decide (bdK o ∈ keysOf parts)) ((pt.wanted ++ pt.whole).take j)
      simp only [List.length_map, List.length_take, List.length_append] at this ⊢; omega
    refine ⟨_, WA.name (.inl rfl), ?_⟩
    refine WS.cons (WS1.iteF (WCmp.toT (WCmp.vc (WE.name rfl) (WE.toC (WE.name rfl)) (CmpC.notIn_list (kinds_strs _ _)))) (by rw [show ((pt.withs.map D.str).any fun d => d.same (.str o)) = inStrs pt.withs o from rfl, inStrs_iff]; simp [hw]) (.nil ?_))
    refine WS.cons (WS1.ite (WCmp.toT (WCmp.vc (WE.tup (.cons (WE.name rfl) (.cons WE.str .nil))) (WE.toC (WE.name rfl)) CmpC.in_dT)) (fun hb => ?_) fun hb => ?_)
    · rw [plc_isSome] at hb
      have hb : bdK o ∈ keysOf parts := by simpa using hb
      refine WS.cons (WS1.append rfl (WE.tup (.cons (WE.name rfl) (.cons WE.str .nil))) (.nil (.nil ⟨_, ?_, rfl, rfl⟩)) (by simp [specKeys]; omega))
      rw [bodyKeys_succ ho, if_pos hb]
      refine Sub.of ⟨?_, rfl, rfl, rfl, rfl, rfl, rfl, rfl, trivial⟩
      simp [keyD]
    · rw [plc_isSome] at hb
      have hb : bdK o ∉ keysOf parts := by simpa using hb
      refine .nil (.nil ⟨_, ?_, rfl, rfl⟩)
      rw [bodyKeys_succ ho, if_neg hb, List.append_nil]
      exact Sub.of ⟨rfl, rfl, rfl, rfl, rfl, rfl, rfl, rfl, trivial⟩
  · rintro ρ1 c1 ⟨rfl, rfl⟩
    rw [List.length_map, List.take_length]
    refine ⟨?_, rfl⟩
    unfold nkeys; rw [hbs]
    exact fun _ _ h => h
  have hnl := nkeys_len (parts := parts) (p := pt)
  refine WS.freeze (x := "keys") rfl ?_
  refine WS.mid [ow "found" (natsD []), fr "keys" (.list ((nkeys parts pt).map keyD)), fr "places" (.dT (plc parts))] c (WS1.assignO (.inl rfl) (WO.list .nil) ⟨Sub.of ⟨rfl, rfl, rfl, trivial⟩, rfl⟩) ?_
  refine WS.mid [ow "found" (natsD (needsOf parts pt))] c (WS1.forIn (WE.name rfl) (.list _) (fun j ρ c1 => ρ = [ow "found" (natsD (((nkeys parts pt).take j).foldl (fun l k => addNew l (placeOf parts k)) [])), fr "keys" (.list ((nkeys parts pt).map keyD)), fr "places" (.dT (plc parts))] ∧ c1 = c) ⟨_, fun _ _ h => h, rfl, rfl⟩ ?_ ?_) ?_
  · rintro j d1 ρ1 c1 hd ⟨rfl, rfl⟩
    rw [List.getElem?_map, Option.map_eq_some_iff] at hd
    obtain ⟨o, ho, rfl⟩ := hd
    have hom := nkeys_mem G hpm (List.mem_of_getElem? ho)
    have hlk : (plc parts).lookup (o.1, o.2) = some (.int (placeOf parts o : Nat)) := by
      unfold plc; rw [plcFrom_some hom]; simp [placeOf]
    have hfl := foldl_addNew_len (parts := parts) ((nkeys parts pt).take j) []
    have htl : ((nkeys parts pt).take j).length ≤ 101 := by rw [List.length_take]; omega
    refine ⟨_, WA.name (.inl rfl), ?_⟩
    rw [List.take_add_one, ho, Option.toList_some, List.foldl_append, List.foldl_cons, List.foldl_nil]
    generalize hF : ((nkeys parts pt).take j).foldl (fun l k => addNew l (placeOf parts k)) [] = F at hfl
    refine WS.cons (WS1.ite (WCmp.toT (WCmp.vc (WE.sub (WE.toC (WE.name rfl)) (WE.name rfl) (SubV.dT hlk)) (WC.name rfl) (CmpC.notIn_list (kinds_nats _ _)))) (fun hb => ?_) fun hb => ?_)
    · rw [natsD_any] at hb
      have hb : placeOf parts o ∉ F := by simpa using hb
      refine WS.cons (WS1.append rfl (WE.sub (WE.toC (WE.name rfl)) (WE.name rfl) (SubV.dT hlk)) (.nil (.nil ⟨_, ?_, rfl, rfl⟩)) (by simp [intsOf] at hfl ⊢; omega))
      refine Sub.of ⟨?_, rfl, rfl, trivial⟩
      unfold addNew; rw [if_neg hb]; simp [natsD, intsOf]
    · rw [natsD_any] at hb
      have hb : placeOf parts o ∈ F := by simpa using hb
      refine .nil (.nil ⟨_, ?_, rfl, rfl⟩)
      unfold addNew; rw [if_pos hb]
      exact Sub.of ⟨rfl, rfl, rfl, trivial⟩
  · rintro ρ1 c1 ⟨rfl, rfl⟩
    rw [List.length_map, List.take_length]
    exact ⟨Sub.of ⟨rfl, trivial⟩, rfl⟩
  · exact WS.freeze (x := "found") rfl (WS.cons (WS1.ret (WE.name rfl) ⟨rfl, .inl rfl⟩))
end Mine
end

section
open PySem PySem.W PyProof.Rows
set_option linter.unusedVariables false
set_option linter.unusedSimpArgs false
set_option maxRecDepth 100000
namespace Mine
variable {g : Cx} {k : Nat} {env : Env} {B Z Z' Z'' : Zm} {ad : Str → Addr} {ρ : Rho} {c c' c'' c1 c2 c3 : Int} {h h' h'' : Heap} {e l r : Expr} {d d1 d2 : D} {p p1 p2 p3 p4 p5 : Pos} {mg mb : Str → Option Value}
variable {K K' : Fl → Rho → Int → Prop} {ss : List Stmt} {st : Stmt}

/-! what is reached -/
inductive Reach (nx : Nat → List Nat) (s : Nat) : Nat → Prop
  | refl : Reach nx s s
  | step {a b : Nat} : Reach nx s a → b ∈ nx a → Reach nx s b
theorem Reach.closed {nx : Nat → List Nat} {s : Nat} {S : Nat → Prop} (h0 : S s) (hs : ∀ a, S a → ∀ b ∈ nx a, S b) : ∀ {a}, Reach nx s a → S a
  | _, .refl => h0
  | _, .step r hb => hs _ (Reach.closed h0 hs r) _ hb
open Classical in
noncomputable def reachL (nx : Nat → List Nat) (n s : Nat) : List Nat := (List.range n).filter fun a => decide (Reach nx s a)
theorem mem_reachL {nx : Nat → List Nat} {n s a : Nat} : a ∈ reachL nx n s ↔ a < n ∧ Reach nx s a := by simp [reachL]
theorem reachL_sorted (nx : Nat → List Nat) (n s : Nat) : (reachL nx n s).Pairwise (· < ·) := List.Pairwise.filter _ List.pairwise_lt_range
theorem reachL_nodup (nx : Nat → List Nat) (n s : Nat) : (reachL nx n s).Nodup := (reachL_sorted nx n s).imp fun h => Nat.ne_of_lt h

theorem sorted_unique {l found : List Nat} (hl : l.Pairwise (· < ·)) (hf : found.Nodup) (h : ∀ a, a ∈ found ↔ a ∈ l) (ms : List Int) (hp : ms.Perm (intsOf found)) (hs : ms.Pairwise (· ≤ ·)) : ms = intsOf l := by
  have h1 : found.Perm l := (List.perm_ext_iff_of_nodup hf (hl.imp fun h => Nat.ne_of_lt h)).mpr h
  have h2 : ms.Perm (intsOf l) := hp.trans (h1.map _)
  refine List.Perm.eq_of_pairwise (le := (· ≤ ·)) (fun a b _ _ h1 h2 => by omega) hs ?_ h2
  unfold intsOf
  rw [List.pairwise_map]
  exact hl.imp fun h => by omega

/-- what a part leads to -/
noncomputable def nxt (parts : List Part) (nl : List (List Nat)) (a : Nat) : List Nat :=
  (nl[a]?).getD [] ++ (match parts[a]? with | some p => if bdK p.nm ∈ keysOf parts then [placeOf parts (bdK p.nm)] else [] | none => [])
structure GoodNeeds (parts : List Part) (nl : List (List Nat)) : Prop where
  len : nl.length = parts.length
  lt : ∀ l ∈ nl, ∀ x ∈ l, x < parts.length
  each : ∀ l ∈ nl, l.length ≤ 200
noncomputable def needsD (nl : List (List Nat)) : D := .list (nl.map natsD)

theorem placeOf_lt {parts : List Part} {k : Str × Str} (h : k ∈ keysOf parts) : placeOf parts k < parts.length := by
  have := List.idxOf_lt_length_iff.mpr h
  unfold placeOf; unfold keysOf at this ⊢; simpa using this
theorem nxt_lt {parts : List Part} {nl : List (List Nat)} (N : GoodNeeds parts nl) {a x : Nat} (h : x ∈ nxt parts nl a) : x < parts.length := by
  unfold nxt at h
  rcases List.mem_append.mp h with h | h
  · cases e : nl[a]? with
    | none => rw [e] at h; simp at h
    | some l => rw [e] at h; exact N.lt l (List.mem_of_getElem? e) x h
  · split at h
    · split at h
      · rw [List.mem_singleton.mp h]; rename_i hb; exact placeOf_lt hb
      · cases h
    · cases h
theorem nxt_len {parts : List Part} {nl : List (List Nat)} (N : GoodNeeds parts nl) (a : Nat) : (nxt parts nl a).length ≤ 201 := by
  unfold nxt
  rw [List.length_append]
  have h1 : ((nl[a]?).getD []).length ≤ 200 := by
    cases e : nl[a]? with
    | none => simp
    | some l => exact N.each l (List.mem_of_getElem? e)
  split
  · split <;> simp <;> omega
  · simp; omega
theorem plc_at {parts : List Part} {k : Str × Str} (h : k ∈ keysOf parts) : (plc parts).lookup (k.1, k.2) = some (.int (placeOf parts k : Nat)) := by
  unfold plc; rw [plcFrom_some h]; simp [placeOf]

noncomputable def markD (l : List Nat) : List (Int × D) := l.map fun n : Nat => ((n : Int), D.bool true)
theorem markD_some (l : List Nat) (x : Nat) : ((markD l).lookup (x : Int)).isSome = decide (x ∈ l) := by
  induction l with
  | nil => rfl
  | cons y l ih =>
    show (List.lookup (x : Int) (((y : Int), D.bool true) :: markD l)).isSome = _
    rw [List.lookup_cons]
    by_cases h : x = y
    · subst h; simp
    · have hb : ((x : Int) == (y : Int)) = false := beq_eq_false_iff_ne.mpr fun e => h (by omega)
      rw [hb]; simp only [ih]; simp [h]
theorem markD_none {l : List Nat} {x : Nat} (h : x ∉ l) : (markD l).lookup (x : Int) = none := by
  have := markD_some l x
  rw [decide_eq_false h] at this
  simpa using this
theorem natsD_snoc (l : List Nat) (x : Nat) : natsD (l ++ [x]) = .list ((intsOf l).map D.int ++ [.int x]) := by simp [natsD, intsOf]
theorem natsD_app (l m : List Nat) : natsD (l ++ m) = .list ((intsOf l).map D.int ++ (intsOf m).map D.int) := by simp [natsD, intsOf]
theorem intsOf_len (l : List Nat) : ((intsOf l).map D.int).length = l.length := by simp [intsOf]
theorem put_dI {es : List (Int × D)} {i : Int} (hn : es.lookup i = none) (hl : es.length ≤ sizeLine) : Put (.dI es) (.int i) d (.dI (es ++ [(i, d)])) := .inl ⟨i, es, rfl, rfl, hn, hl, rfl⟩

theorem binds_reached_parts : Binds 14 ["parts", "needs", "main"] := binds3 fun a b c fd h1 h2 h3 => by
  obtain ⟨n, q, ps, bd, sc, gl, cl, df, kd, doc, pm, an, cd, ct, bl⟩ := fd
  cases h1; cases h2; cases h3
  rfl
theorem frame_reached_parts : Frame 14 ["parts", "needs", "main"] := ⟨binds_reached_parts, by decide, rfl, rfl, rfl, fun L x hx => by simp at hx; rcases hx with rfl | rfl | rfl <;> first | exact .inl rfl | exact .inr ⟨rfl, rfl⟩⟩

/-- where the walk stands -/
structure WalkInv (nx : Nat → List Nat) (n s : Nat) (found waiting : List Nat) : Prop where
  nd : found.Nodup
  f : ∀ a ∈ found, a < n ∧ Reach nx s a
  w : ∀ a ∈ waiting, a < n ∧ Reach nx s a
  cl : ∀ a ∈ found, ∀ b ∈ nx a, b ∈ found ∨ b ∈ waiting
  st : s ∈ found ∨ s ∈ waiting
theorem nodup_le {n : Nat} {l : List Nat} (hn : l.Nodup) (hl : ∀ a ∈ l, a < n) : l.length ≤ n := by
  have h := List.Nodup.length_le_of_subset (l₁ := l) (l₂ := List.range n) hn fun a ha => List.mem_range.mpr (hl a ha)
  simpa using h
theorem WalkInv.start {nx : Nat → List Nat} {n s : Nat} (h : s < n) : WalkInv nx n s [] [s] := ⟨.nil, by simp, fun a ha => by simp at ha; subst ha; exact ⟨h, .refl⟩, by simp, .inr (by simp)⟩
theorem WalkInv.skip {nx : Nat → List Nat} {n s a : Nat} {found w : List Nat} (x : WalkInv nx n s found (w ++ [a])) (h : a ∈ found) : WalkInv nx n s found w where
  nd := x.nd
  f := x.f
  w := fun b hb => x.w b (List.mem_append_left _ hb)
  cl := fun b hb e he => by
    rcases x.cl b hb e he with q | q
    · exact .inl q
    · rcases List.mem_append.mp q with q | q
      · exact .inr q
      · rw [List.mem_singleton.mp q]; exact .inl h
  st := by
    rcases x.st with q | q
    · exact .inl q
    · rcases List.mem_append.mp q with q | q
      · exact .inr q
      · rw [List.mem_singleton.mp q]; exact .inl h
theorem WalkInv.take {nx : Nat → List Nat} {n s a : Nat} {found w : List Nat} (x : WalkInv nx n s found (w ++ [a])) (h : a ∉ found) (hn : ∀ b ∈ nx a, b < n) : WalkInv nx n s (found ++ [a]) (w ++ nx a) where
  nd := List.nodup_append.mpr ⟨x.nd, by simp, fun b hb e he => by rw [List.mem_singleton.mp he]; rintro rfl; exact h hb⟩
  f := fun b hb => by
    rcases List.mem_append.mp hb with q | q
    · exact x.f b q
    · rw [List.mem_singleton.mp q]; exact x.w a (by simp)
  w := fun b hb => by
    rcases List.mem_append.mp hb with q | q
    · exact x.w b (List.mem_append_left _ q)
    · exact ⟨hn b q, .step (x.w a (by simp)).2 q⟩
  cl := fun b hb e he => by
    rcases List.mem_append.mp hb with q | q
    · rcases x.cl b q e he with r | r
      · exact .inl (List.mem_append_left _ r)
      · rcases List.mem_append.mp r with r | r
        · exact .inr (List.mem_append_left _ r)
        · rw [List.mem_singleton.mp r]; exact .inl (by simp)
    · rw [List.mem_singleton.mp q] at he; exact .inr (List.mem_append_right _ he)
  st := by
    rcases x.st with q | q
    · exact .inl (List.mem_append_left _ q)
    · rcases List.mem_append.mp q with q | q
      · exact .inr (List.mem_append_left _ q)
      · rw [List.mem_singleton.mp q]; exact .inl (by simp)
theorem WalkInv.done {nx : Nat → List Nat} {n s : Nat} {found : List Nat} (x : WalkInv nx n s found []) (a : Nat) : a ∈ found ↔ a ∈ reachL nx n s := by
  rw [mem_reachL]
  refine ⟨x.f a, fun h => ?_⟩
  refine Reach.closed (S := (· ∈ found)) ?_ (fun b hb e he => ?_) h.2
  · rcases x.st with q | q
    · exact q
    · cases q
  · rcases x.cl b hb e he with q | q
    · exact q
    · cases q

theorem body_reached_parts (P : Pg g mg mb) {parts : List Part} (G : GoodParts parts) {nl : List (List Nat)} (N : GoodNeeds parts nl) {main : Str} (hm : spK main ∈ keysOf parts) :
    BodyAt g 1 14 ["parts", "needs", "main"] [partsD parts, needsD nl, .str main] c (natsD (reachL (nxt parts nl) parts.length (placeOf parts (spK main)))) c := fun L a q code => by
  have hsl : sizeLine = 16777216 := rfl
  have hlen := G.len
  let R : List Nat → List Nat → Rho := fun f w => [ow "found" (.dI (markD f)), ow "waiting" (natsD w), fr "places" (.dT (plc parts)), fr "parts" (partsD parts), fr "needs" (needsD nl)]
  refine WS.cons (WS1.assign (.inl rfl) (WE.callC P.G (places_of_call P G) (.cons (WE.name rfl) .nil) (by decide)) ?_)
  refine WS.cons (WS1.iteF (WCmp.toT (WCmp.vc (WE.tup (.cons (WE.name rfl) (.cons WE.str .nil))) (WE.toC (WE.name rfl)) CmpC.notIn_dT)) (by rw [plc_isSome]; simp [hm]) (.nil ?_))
  refine WS.cons (WS1.assignO (.inl rfl) (WO.list (.cons (WE.sub (WE.toC (WE.name rfl)) (WE.tup (.cons (WE.name rfl) (.cons WE.str .nil))) (SubV.dT (plc_at hm))) .nil)) ?_)
  refine WS.mid (R [] [placeOf parts (spK main)]) c (WS1.assignO (.inl rfl) (WO.dict P.G).1 ⟨Sub.of ⟨rfl, rfl, rfl, rfl, rfl, trivial⟩, rfl⟩) ?_
  have hs := placeOf_lt hm
  generalize hsd : placeOf parts (spK main) = s0 at hs
  have N2 := N
  obtain ⟨hnl, hnlt, hnle⟩ := N
  have hnx : ∀ a, (nxt parts nl a).length ≤ 201 := nxt_len N2
  refine WS.cons (WS1.whileDo (fun m ρ c1 => c1 = c ∧ ∃ f w, ρ = R f w ∧ WalkInv (nxt parts nl) parts.length s0 f w ∧ m = (parts.length - f.length) * 300 + w.length ∧ m ≤ 15001) (parts.length * 300 + 1)
    ⟨_, fun _ _ h => h, rfl, [], [s0], rfl, .start hs, rfl, by omega⟩ ?_)
  rintro m ρ1 c1 ⟨rfl, f, w, rfl, inv, rfl, hm1⟩
  have hfl := nodup_le inv.nd fun a ha => (inv.f a ha).1
  refine ⟨_, c1, WCmp.toT (WCmp.cc (WC.name rfl) (WO.toC (WO.list .nil)) (CmpCC.ne (ns := intsOf w) (ms := []))), fun hb => ?_, fun hb => ?_⟩
  · have hw : w ≠ [] := by rintro rfl; simp [intsOf] at hb
    obtain ⟨w', a', rfl⟩ : ∃ w' a', w = w' ++ [a'] := ⟨w.dropLast, w.getLast hw, (List.dropLast_concat_getLast hw).symm⟩
    have ha := inv.w a' (by simp)
    have hwl : w'.length ≤ 15000 := by simp at hm1; omega
    refine WS.cons (WS1.popLast (x := "at") (d := .int a') (ds := (intsOf w').map D.int) (.inl rfl) (by rw [← natsD_snoc]; rfl) ?_ (by rw [intsOf_len]; omega))
    change WS g 1 (fenv (fnAt 14).2.2 L a q code) (fr "at" (.int a') :: ow "waiting" (natsD w') :: R f (w' ++ [a'])) c1 _ _
    refine WS.cons (WS1.ite (WCmp.toT (WCmp.vc (WE.name rfl) (WC.name rfl) CmpC.in_dI)) (fun hb => ?_) fun hb => ?_)
    · rw [markD_some] at hb
      have hb : a' ∈ f := by simpa using hb
      refine WS.cons (WS1.cont ⟨_, R f w', ?_, ?_, rfl, f, w', rfl, inv.skip hb, rfl, ?_⟩)
      · simp
      · exact Sub.of ⟨rfl, rfl, rfl, rfl, rfl, trivial⟩
      · simp at hm1; omega
    · rw [markD_some] at hb
      have hb : a' ∉ f := by simpa using hb
      refine .nil ?_
      have hd2 := parts_at ha.1
      have hgl : a' < nl.length := by rw [hnl]; exact ha.1
      have hnd2 : (nl.map natsD)[((a' : Nat) : Int).toNat]? = some (natsD nl[a']) := by simp [hgl]
      have hl1 := hnle nl[a'] (List.getElem_mem hgl)
      have hnx1 := hnx a'
      have hnxe : nxt parts nl a' = nl[a'] ++ (if bdK parts[a'].nm ∈ keysOf parts then [placeOf parts (bdK parts[a'].nm)] else []) := by
        unfold nxt
        rw [List.getElem?_eq_getElem hgl, List.getElem?_eq_getElem ha.1]; rfl
      have inv' := inv.take hb fun b hb => nxt_lt N2 hb
      have hfl' := nodup_le inv'.nd fun a ha => (inv'.f a ha).1
      have ha63 : ((a' : Nat) : Int) < 2 ^ 63 := by have := ha.1; omega
      generalize hp : parts[a'] = pt at hd2 hnxe
      refine WS.cons (WS1.put (d := .bool true) rfl WE.bool (WE.name rfl) (put_dI (markD_none hb) (by simp [markD]; omega)) ?_)
      refine WS.cons (WS1.extend (es := (intsOf nl[a']).map D.int) rfl (WE.sub (WE.toC (WE.name rfl)) (WE.name rfl) (SubV.list (by omega) ha63 hnd2)) ?_ (by rw [intsOf_len, intsOf_len]; omega))
      rw [← natsD_app]
      have hmk : D.dI (markD f ++ [((a' : Int), D.bool true)]) = .dI (markD (f ++ [a'])) := by simp [markD]
      rw [hmk]
      have hfin : (parts.length - (f ++ [a']).length) * 300 + (w' ++ nxt parts nl a').length < (parts.length - f.length) * 300 + (w' ++ [a']).length := by
        simp only [List.length_append, List.length_singleton] at hfl' ⊢; omega
      refine WS.cons (WS1.ite (WCmp.toT (WCmp.vc (WE.tup (.cons (WE.sub (WE.toC (WE.sub (WE.toC (WE.name rfl)) (WE.name rfl) (SubV.list (by omega) ha63 hd2))) WE.int (SubV.tup (by decide) (by decide) rfl)) (.cons WE.str .nil))) (WE.toC (WE.name rfl)) CmpC.in_dT)) (fun hc => ?_) fun hc => ?_)
      · rw [plc_isSome] at hc
        have hc : bdK pt.nm ∈ keysOf parts := by simpa using hc
        rw [if_pos hc] at hnxe
        refine WS.cons (WS1.append rfl (WE.sub (WE.toC (WE.name rfl)) (WE.tup (.cons (WE.sub (WE.toC (WE.sub (WE.toC (WE.name rfl)) (WE.name rfl) (SubV.list (by omega) ha63 hd2))) WE.int (SubV.tup (by decide) (by decide) rfl)) (.cons WE.str .nil))) (SubV.dT (plc_at hc))) (.nil (.nil ⟨_, R (f ++ [a']) (w' ++ nxt parts nl a'), hfin, ?_, rfl, f ++ [a'], _, rfl, inv', rfl, by omega⟩)) (by rw [intsOf_len, List.length_append]; omega))
        rw [← natsD_snoc, hnxe, ← List.append_assoc]
        exact Sub.of ⟨rfl, rfl, rfl, rfl, rfl, trivial⟩
      · rw [plc_isSome] at hc
        have hc : bdK pt.nm ∉ keysOf parts := by simpa using hc
        rw [if_neg hc, List.append_nil] at hnxe
        refine .nil (.nil ⟨_, R (f ++ [a']) (w' ++ nxt parts nl a'), hfin, ?_, rfl, f ++ [a'], _, rfl, inv', rfl, by omega⟩)
        rw [hnxe]
        exact Sub.of ⟨rfl, rfl, rfl, rfl, rfl, trivial⟩
  · have hw : w = [] := by
      cases w with
      | nil => rfl
      | cons x w => simp [intsOf] at hb
    subst hw
    refine WS.cons (WS1.ret (WO.toE (WO.sorted P.G rfl (WC.name rfl) (by simp [markD]; omega) fun ms h1 h2 => ?_)) ⟨rfl, .inl rfl⟩)
    refine sorted_unique (reachL_sorted ..) inv.nd inv.done ms ?_ h2
    simpa [markD, intsOf, Function.comp_def] using h1
end Mine
end

section
open PySem PySem.W PyProof.Rows
set_option linter.unusedVariables false
set_option linter.unusedSimpArgs false
set_option maxRecDepth 100000
namespace Mine
variable {g : Cx} {k : Nat} {env : Env} {B Z Z' Z'' : Zm} {ad : Str → Addr} {ρ : Rho} {c c' c'' c1 c2 c3 : Int} {h h' h'' : Heap} {e l r : Expr} {d d1 d2 : D} {p p1 p2 p3 p4 p5 : Pos} {mg mb : Str → Option Value}
variable {K K' : Fl → Rho → Int → Prop} {ss : List Stmt} {st : Stmt}

theorem reached_call (P : Pg g mg mb) {parts : List Part} (G : GoodParts parts) {nl : List (List Nat)} (N : GoodNeeds parts nl) {main : Str} (hm : spK main ∈ keysOf parts) :
    Calls g mg 2 "reached_parts" [partsD parts, needsD nl, .str main] c (natsD (reachL (nxt parts nl) parts.length (placeOf parts (spK main)))) c :=
  P.reached_parts.call (k := 1) P.G frame_reached_parts rfl (body_reached_parts P G N hm)
theorem needs_of_call (P : Pg g mg mb) {parts : List Part} (G : GoodParts parts) {i : Nat} (hi : i < parts.length) : Calls g mg 1 "needs_of" [partsD parts, .dT (plc parts), .int i] c (natsD (needsOf parts parts[i])) c :=
  P.needs_of.call (k := 0) P.G frame_needs_of rfl (body_needs_of P G hi)

/-! what wholes bring -/
noncomputable def wreach (parts : List Part) (nl : List (List Nat)) (o : Str) : List Nat := reachL (nxt parts nl) parts.length (placeOf parts (spK o))
noncomputable def wstep (parts : List Part) (nl : List (List Nat)) (own F : List Nat) (o : Str) : List Nat := F ++ (wreach parts nl o).filter fun x => !decide (x ∈ own) && (!decide (x ∈ F) && true)
noncomputable def wholeOf (parts : List Part) (nl : List (List Nat)) (own : List Nat) (ws : List Str) : List Nat := ws.foldl (wstep parts nl own) []
theorem wstep_inv {parts : List Part} {nl : List (List Nat)} {own F : List Nat} {o : Str} (hn : F.Nodup) (hl : ∀ a ∈ F, a < parts.length) : (wstep parts nl own F o).Nodup ∧ ∀ a ∈ wstep parts nl own F o, a < parts.length := by
  unfold wstep
  refine ⟨List.nodup_append.mpr ⟨hn, (reachL_nodup ..).filter _, fun a ha b hb => ?_⟩, fun a ha => ?_⟩
  · rintro rfl
    have := (List.mem_filter.mp hb).2
    simp [ha] at this
  · rcases List.mem_append.mp ha with q | q
    · exact hl a q
    · exact (mem_reachL.mp (List.mem_filter.mp q).1).1
theorem wholeOf_inv {parts : List Part} {nl : List (List Nat)} {own : List Nat} : ∀ (ws : List Str) (F : List Nat), F.Nodup → (∀ a ∈ F, a < parts.length) → (ws.foldl (wstep parts nl own) F).Nodup ∧ ∀ a ∈ ws.foldl (wstep parts nl own) F, a < parts.length
  | [], F, h1, h2 => ⟨h1, h2⟩
  | o :: ws, F, h1, h2 => by
    obtain ⟨a, b⟩ := wstep_inv (parts := parts) (nl := nl) (own := own) (o := o) h1 h2
    exact wholeOf_inv ws _ a b
theorem reachL_len (nx : Nat → List Nat) (n s : Nat) : (reachL nx n s).length ≤ n := nodup_le (reachL_nodup ..) fun a ha => (mem_reachL.mp ha).1

theorem body_whole_needs (P : Pg g mg mb) {parts : List Part} (G : GoodParts parts) {nl : List (List Nat)} (N : GoodNeeds parts nl) {i : Nat} (hi : i < parts.length) :
    BodyAt g 2 13 ["parts", "needs", "at"] [partsD parts, needsD nl, .int i] c (natsD (wholeOf parts nl (nl[i]'(N.len ▸ hi)) parts[i].whole)) c := fun L a q code => by
  have hsl : sizeLine = 16777216 := rfl
  have hlen := G.len
  have hd2 := parts_at hi
  have hpm : parts[i] ∈ parts := List.getElem_mem hi
  have hgl : i < nl.length := N.len ▸ hi
  have hnd2 : (nl.map natsD)[((i : Nat) : Int).toNat]? = some (natsD nl[i]) := by simp [hgl]
  generalize hp : parts[i] = pt at hd2 hpm
  generalize hown : nl[i] = own at hnd2
  have heach := G.each pt hpm
  have hi63 : (i : Int) < 2 ^ 63 := by omega
  refine WS.mid [ow "found" (natsD []), fr "parts" (partsD parts), fr "needs" (needsD nl), fr "at" (.int i)] c (WS1.assignO (.inr ⟨rfl, rfl⟩) (WO.list .nil) ⟨Sub.of ⟨rfl, rfl, rfl, rfl, trivial⟩, rfl⟩) ?_
  refine WS.mid [ow "found" (natsD (wholeOf parts nl own pt.whole))] c (WS1.forIn (d := .tup (pt.whole.map .str)) (WE.tupFrom (b := 4) (WE.sub (WE.toC (WE.name rfl)) (WE.name rfl) (SubV.list (by omega) hi63 hd2)) WE.int (by decide) (by simp) (by simp; omega)) (.tup _)
    (fun j ρ c1 => ρ = [ow "found" (natsD (wholeOf parts nl own (pt.whole.take j))), fr "parts" (partsD parts), fr "needs" (needsD nl), fr "at" (.int i)] ∧ c1 = c) ⟨_, fun _ _ h => h, rfl, rfl⟩ ?_ ?_) ?_
  · rintro j d1 ρ1 c1 hd ⟨rfl, rfl⟩
    rw [List.getElem?_map, Option.map_eq_some_iff] at hd
    obtain ⟨o, ho, rfl⟩ := hd
    have hom := List.mem_of_getElem? ho
    have hsp : spK o ∈ keysOf parts := G.withs pt hpm o (G.wants pt hpm o (List.mem_append_right _ hom))
    refine ⟨_, WA.name (.inl rfl), ?_⟩
    have e : wholeOf parts nl own (pt.whole.take (j + 1)) = wstep parts nl own (wholeOf parts nl own (pt.whole.take j)) o := by
      unfold wholeOf; rw [List.take_add_one, ho, Option.toList_some, List.foldl_append]; rfl
    rw [e]
    have hF : (wholeOf parts nl own (pt.whole.take j)).Nodup ∧ ∀ a ∈ wholeOf parts nl own (pt.whole.take j), a < parts.length := wholeOf_inv (pt.whole.take j) [] .nil (by simp)
    generalize wholeOf parts nl own (pt.whole.take j) = F at hF
    have hFl := nodup_le hF.1 hF.2
    have hrl : (wreach parts nl o).length ≤ parts.length := reachL_len ..
    refine WS.cons (WS1.augList (es := (intsOf ((wreach parts nl o).filter fun x => !decide (x ∈ own) && (!decide (x ∈ F) && true))).map D.int) (c' := c1) (.inr ⟨rfl, rfl⟩) rfl
      (WO.toE (WO.compO [fr "at" (.int i), ow "found" (natsD F), fr "needs" (needsD nl)] [("needs", L + 1), ("found", L + 3), ("at", L + 2)] (fun n : Nat => D.int n) (wreach parts nl o) (fun x => !decide (x ∈ own) && (!decide (x ∈ F) && true)) (fun n : Nat => D.int n)
        (WE.callC P.G (reached_call P G N hsp) (.cons (WE.name rfl) (.cons (WE.name rfl) (.cons (WE.name rfl) .nil))) (by decide)) ?_
        (CompCx.of rfl ⟨⟨rfl, .inl rfl, rfl, .inl rfl, rfl⟩, ⟨rfl, .inl rfl, rfl, .inl rfl, rfl⟩, ⟨rfl, .inl rfl, rfl, .inl rfl, rfl⟩, trivial⟩ ⟨rfl, rfl, rfl, trivial⟩)
        (fun C n hn => ?_) (fun C n hn _ => WE.name rfl) (by omega) ?_)) (.nil ⟨_, ?_, rfl, rfl⟩) ?_)
    · have := Iters.list ((intsOf (wreach parts nl o)).map D.int)
      rw [show (wreach parts nl o).map (fun n : Nat => D.int n) = (intsOf (wreach parts nl o)).map D.int by simp [intsOf, Function.comp_def]]
      exact this
    · show WTests _ _ _ _ _ _ (!decide (n ∈ own) && (!decide (n ∈ F) && true))
      rw [← natsD_any own n, ← natsD_any F n]
      exact WTests.one (WTs.toT (WTs.and_cons (WCmp.toT (WCmp.vc (WE.name rfl) (WE.toC (WE.sub (WE.toC (WE.name rfl)) (WE.name rfl) (SubV.list (by omega) hi63 hnd2))) (CmpC.notIn_list (kinds_nats _ _)))) fun _ => WTs.and_cons (WCmp.toT (WCmp.vc (WE.name rfl) (WC.name rfl) (CmpC.notIn_list (kinds_nats _ _)))) fun _ => WTs.and_nil))
    · simp [intsOf, Function.comp_def]
    · refine Sub.of ⟨?_, rfl, rfl, rfl, trivial⟩
      unfold wstep
      rw [natsD_app]; rfl
    · rw [intsOf_len, intsOf_len]
      have := List.length_filter_le (fun x => !decide (x ∈ own) && (!decide (x ∈ F) && true)) (wreach parts nl o)
      omega
  · rintro ρ1 c1 ⟨rfl, rfl⟩
    rw [List.length_map, List.take_length]
    exact ⟨Sub.of ⟨rfl, trivial⟩, rfl⟩
  · subst hown hp
    exact WS.freeze (x := "found") rfl (WS.cons (WS1.ret (WE.name rfl) ⟨rfl, .inl rfl⟩))
end Mine
end

section
open PySem PySem.W PyProof.Rows
set_option linter.unusedVariables false
set_option linter.unusedSimpArgs false
set_option maxRecDepth 100000
namespace Mine
variable {g : Cx} {k : Nat} {env : Env} {B Z Z' Z'' : Zm} {ad : Str → Addr} {ρ : Rho} {c c' c'' c1 c2 c3 : Int} {h h' h'' : Heap} {e l r : Expr} {d d1 d2 : D} {p p1 p2 p3 p4 p5 : Pos} {mg mb : Str → Option Value}
variable {K K' : Fl → Rho → Int → Prop} {ss : List Stmt} {st : Stmt}

theorem whole_needs_call (P : Pg g mg mb) {parts : List Part} (G : GoodParts parts) {nl : List (List Nat)} (N : GoodNeeds parts nl) {i : Nat} (hi : i < parts.length) :
    Calls g mg 3 "whole_needs" [partsD parts, needsD nl, .int i] c (natsD (wholeOf parts nl (nl[i]'(N.len ▸ hi)) parts[i].whole)) c :=
  P.whole_needs.call (k := 2) P.G frame_whole_needs rfl (body_whole_needs P G N hi)

noncomputable def needs1 (parts : List Part) : List (List Nat) := parts.map (needsOf parts)
noncomputable def needs2 (parts : List Part) : List (List Nat) := (List.range parts.length).map fun i => ((needs1 parts)[i]?).getD [] ++ wholeOf parts (needs1 parts) (((needs1 parts)[i]?).getD []) (match parts[i]? with | some p => p.whole | none => [])

theorem foldl_addNew_mem {parts : List Part} {x : Nat} : ∀ (ks : List (Str × Str)) (l : List Nat), x ∈ ks.foldl (fun l k => addNew l (placeOf parts k)) l ↔ x ∈ l ∨ ∃ k ∈ ks, placeOf parts k = x
  | [], l => by simp
  | k :: ks, l => by
    rw [List.foldl_cons, foldl_addNew_mem ks]
    have : x ∈ addNew l (placeOf parts k) ↔ x ∈ l ∨ placeOf parts k = x := by
      unfold addNew
      split
      · rename_i h
        constructor
        · exact fun q => .inl q
        · rintro (q | rfl)
          · exact q
          · exact h
      · simp; constructor <;> rintro (q | q) <;> simp [q]
    rw [this]
    simp [or_assoc]
theorem mem_needsOf {parts : List Part} {p : Part} {x : Nat} : x ∈ needsOf parts p ↔ ∃ k ∈ nkeys parts p, placeOf parts k = x := by
  unfold needsOf; rw [foldl_addNew_mem]; simp
theorem good1 {parts : List Part} (G : GoodParts parts) : GoodNeeds parts (needs1 parts) where
  len := by simp [needs1]
  lt := fun l hl x hx => by
    obtain ⟨p, hp, rfl⟩ := List.mem_map.mp hl
    obtain ⟨k, hk, rfl⟩ := mem_needsOf.mp hx
    exact placeOf_lt (nkeys_mem G hp hk)
  each := fun l hl => by
    obtain ⟨p, hp, rfl⟩ := List.mem_map.mp hl
    have h1 := foldl_addNew_len (parts := parts) (nkeys parts p) []
    have h2 := nkeys_len (parts := parts) (p := p)
    have h3 := G.each p hp
    unfold needsOf
    simp at h1; omega
theorem needs2_at {parts : List Part} {i : Nat} (hi : i < parts.length) (h1 : i < (needs1 parts).length) : ((needs2 parts)[i]?) = some ((needs1 parts)[i] ++ wholeOf parts (needs1 parts) (needs1 parts)[i] parts[i].whole) := by
  unfold needs2
  rw [List.getElem?_map, List.getElem?_range hi, Option.map_some, List.getElem?_eq_getElem h1, List.getElem?_eq_getElem hi]; rfl
theorem good2 {parts : List Part} (G : GoodParts parts) : GoodNeeds parts (needs2 parts) where
  len := by simp [needs2]
  lt := fun l hl x hx => by
    obtain ⟨i, hi, rfl⟩ := List.mem_map.mp hl
    have hi : i < parts.length := by simpa using hi
    have h1 : i < (needs1 parts).length := by simpa [needs1] using hi
    rw [List.getElem?_eq_getElem h1] at hx
    rcases List.mem_append.mp hx with q | q
    · exact (good1 G).lt _ (List.getElem_mem h1) x q
    · exact (wholeOf_inv _ [] .nil (by simp)).2 x q
  each := fun l hl => by
    obtain ⟨i, hi, rfl⟩ := List.mem_map.mp hl
    have hi : i < parts.length := by simpa using hi
    have h1 : i < (needs1 parts).length := by simpa [needs1] using hi
    rw [List.getElem?_eq_getElem h1, List.length_append]
    have a1 : ((needs1 parts)[i]).length ≤ 101 := by
      have h1 := foldl_addNew_len (parts := parts) (nkeys parts parts[i]) []
      have h2 := nkeys_len (parts := parts) (p := parts[i])
      have h3 := G.each _ (List.getElem_mem hi)
      simp only [needs1, List.getElem_map]
      unfold needsOf
      simp at h1; omega
    have a2 := wholeOf_inv (parts := parts) (nl := needs1 parts) (own := (needs1 parts)[i]) (match parts[i]? with | some p => p.whole | none => []) [] .nil (by simp)
    have a3 := nodup_le a2.1 a2.2
    have a4 := G.len
    change (wholeOf parts (needs1 parts) (needs1 parts)[i] _).length ≤ _ at a3
    simp only [Option.getD_some]
    omega

theorem binds_all_needs : Binds 12 ["parts"] := binds1 fun a fd h1 h2 h3 => by
  obtain ⟨n, q, ps, bd, sc, gl, cl, df, kd, doc, pm, an, cd, ct, bl⟩ := fd
  cases h1; cases h2; cases h3
  rfl
theorem frame_all_needs : Frame 12 ["parts"] := ⟨binds_all_needs, by decide, rfl, rfl, rfl, fun L x hx => by simp at hx; subst hx; first | exact .inl rfl | exact .inr ⟨rfl, rfl⟩⟩

theorem body_all_needs (P : Pg g mg mb) {parts : List Part} (G : GoodParts parts) : BodyAt g 3 12 ["parts"] [partsD parts] c (needsD (needs2 parts)) c := fun L a q code => by
  have hsl : sizeLine = 16777216 := rfl
  have hlen := G.len
  have hn1 : (needs1 parts).length = parts.length := by simp [needs1]
  refine WS.cons (WS1.assign (.inr ⟨rfl, rfl⟩) (WE.callC P.G (places_of_call P G) (.cons (WE.name rfl) .nil) (by decide)) ?_)
  refine WS.cons (WS1.assignO (.inr ⟨rfl, rfl⟩) (WO.compO [fr "parts" (partsD parts), fr "places" (.dT (plc parts))] [("places", L + 2), ("parts", L + 1)] (fun i : Nat => D.int i) (List.range parts.length) (fun _ => true) (fun i => natsD (((needs1 parts)[i]?).getD [])) (out := (needs1 parts).map natsD)
    (WE.range (n := parts.length) P.G rfl (WE.len P.G rfl (WE.toC (WE.name rfl)) (.inl ⟨_, rfl, List.length_map ..⟩) (by omega)) (by omega)) (.rng _) (CompCx.of rfl ⟨⟨rfl, .inl rfl, rfl, .inl rfl, rfl⟩, ⟨rfl, .inl rfl, rfl, .inl rfl, rfl⟩, trivial⟩ ⟨rfl, rfl, trivial⟩)
    (fun C n hn => .nil) (fun C n hn _ => ?_) (by simp; omega) ?_) ?_)
  · have hn : n < parts.length := by simpa using hn
    have e : ((needs1 parts)[n]?).getD [] = needsOf parts parts[n] := by simp [needs1, hn]
    rw [e]
    exact WE.callC P.G (needs_of_call P G hn) (.cons (WE.name rfl) (.cons (WE.name rfl) (.cons (WE.name rfl) .nil))) (by decide)
  · rw [List.filter_eq_self.mpr (fun _ _ => rfl)]
    refine List.ext_getElem (by simp [hn1]) fun i h1 h2 => ?_
    have : i < (needs1 parts).length := by simpa using h2
    simp [this]
  refine WS.freeze (x := "needs") rfl ?_
  refine WS.cons (WS1.ret (WO.toE (WO.compO [fr "parts" (partsD parts), fr "needs" (needsD (needs1 parts))] [("parts", L + 1), ("needs", L + 3)] (fun i : Nat => D.int i) (List.range parts.length) (fun _ => true) (fun i => natsD (((needs2 parts)[i]?).getD [])) (out := (needs2 parts).map natsD)
    (WE.range (n := parts.length) P.G rfl (WE.len P.G rfl (WE.toC (WE.name rfl)) (.inl ⟨_, rfl, List.length_map ..⟩) (by omega)) (by omega)) (.rng _) (CompCx.of rfl ⟨⟨rfl, .inl rfl, rfl, .inl rfl, rfl⟩, ⟨rfl, .inl rfl, rfl, .inl rfl, rfl⟩, trivial⟩ ⟨rfl, rfl, trivial⟩)
    (fun C n hn => .nil) (fun C n hn _ => ?_) (by simp; omega) ?_)) ⟨rfl, .inl rfl⟩)
  · have hn : n < parts.length := by simpa using hn
    have h1 : n < (needs1 parts).length := hn1 ▸ hn
    have hnd2 : ((needs1 parts).map natsD)[((n : Nat) : Int).toNat]? = some (natsD (needs1 parts)[n]) := by simp [h1]
    have a1 := (good1 G).each _ (List.getElem_mem h1)
    have a2 := wholeOf_inv (parts := parts) (nl := needs1 parts) (own := (needs1 parts)[n]) parts[n].whole [] .nil (by simp)
    have a3 : (wholeOf parts (needs1 parts) (needs1 parts)[n] parts[n].whole).length ≤ parts.length := nodup_le a2.1 a2.2
    rw [needs2_at hn h1, Option.getD_some, natsD_app]
    exact WO.toE (WO.binop (WE.sub (WE.toC (WE.name rfl)) (WE.name rfl) (SubV.list (by omega) (by omega) hnd2)) (WE.callC P.G (whole_needs_call P G (good1 G) hn) (.cons (WE.name rfl) (.cons (WE.name rfl) (.cons (WE.name rfl) .nil))) (by decide)) (OpO.list_add (by rw [intsOf_len, intsOf_len]; omega)))
  · rw [List.filter_eq_self.mpr (fun _ _ => rfl)]
    have hn2 : (needs2 parts).length = parts.length := by simp [needs2]
    refine List.ext_getElem (by simp [hn2]) fun i h1 h2 => ?_
    have : i < (needs2 parts).length := by simpa using h2
    simp [this]
end Mine
end

section
open PySem PySem.W PyProof.Rows
set_option linter.unusedVariables false
set_option linter.unusedSimpArgs false
set_option maxRecDepth 100000
namespace Mine
variable {g : Cx} {k : Nat} {env : Env} {B Z Z' Z'' : Zm} {ad : Str → Addr} {ρ : Rho} {c c' c'' c1 c2 c3 : Int} {h h' h'' : Heap} {e l r : Expr} {d d1 d2 : D} {p p1 p2 p3 p4 p5 : Pos} {mg mb : Str → Option Value}
variable {K K' : Fl → Rho → Int → Prop} {ss : List Stmt} {st : Stmt}

theorem all_needs_call (P : Pg g mg mb) {parts : List Part} (G : GoodParts parts) : Calls g mg 4 "all_needs" [partsD parts] c (needsD (needs2 parts)) c := P.all_needs.call (k := 3) P.G frame_all_needs rfl (body_all_needs P G)

theorem WE.neg {i : Int} (x : WE g k env ρ c e (.int i) c') : WE g k env ρ c (.UnaryOp .USub e p) (.int (-i)) c' := .mk fun A E B Z ad s ok sim =>
  wpAny_UnaryOp (wpAny_mono (x.go A E B Z ad s ok sim) (fun v s1 ⟨Z1, x1, r⟩ => by obtain ⟨_, rfl⟩ := rep_int r; exact PyProof.Rows.neg_int ⟨Z1, x1.to, .int _ _⟩) fun _ _ e => e)

/-! the ring -/
noncomputable def ringNext (nl : List (List Nat)) (left : List Nat) (a : Nat) : Nat := ((((nl[a]?).getD []).filter fun x => decide (x ∈ left)).head?).getD 0
noncomputable def ringGo (nl : List (List Nat)) (left : List Nat) : Nat → List Nat → List Nat
  | 0, _ => []
  | f + 1, w => if ringNext nl left ((w.getLast?).getD 0) ∈ w then w.drop (w.idxOf (ringNext nl left ((w.getLast?).getD 0))) else ringGo nl left f (w ++ [ringNext nl left ((w.getLast?).getD 0)])
noncomputable def ringOf (nl : List (List Nat)) (left : List Nat) : List Nat := ringGo nl left left.length [(left.head?).getD 0]
structure Stuck (nl : List (List Nat)) (left : List Nat) : Prop where
  ne : left ≠ []
  nd : left.Nodup
  lt : ∀ a ∈ left, a < nl.length
  go : ∀ a ∈ left, ∃ x ∈ (nl[a]?).getD [], x ∈ left
theorem Stuck.next {nl : List (List Nat)} {left : List Nat} (S : Stuck nl left) {a : Nat} (ha : a ∈ left) : ringNext nl left a ∈ left ∧ (((nl[a]?).getD []).filter fun x => decide (x ∈ left))[0]? = some (ringNext nl left a) := by
  obtain ⟨x, hx, hl⟩ := S.go a ha
  unfold ringNext
  cases e : ((nl[a]?).getD []).filter fun x => decide (x ∈ left) with
  | nil =>
    have : x ∈ ((nl[a]?).getD []).filter fun x => decide (x ∈ left) := List.mem_filter.mpr ⟨hx, by simpa using hl⟩
    rw [e] at this; cases this
  | cons y ys =>
    have : y ∈ ((nl[a]?).getD []).filter fun x => decide (x ∈ left) := by rw [e]; exact List.mem_cons_self ..
    exact ⟨by simpa using (List.mem_filter.mp this).2, by simp⟩

theorem binds_ring_of : Binds 15 ["needs", "left"] := binds2 fun a b fd h1 h2 h3 => by
  obtain ⟨n, q, ps, bd, sc, gl, cl, df, kd, doc, pm, an, cd, ct, bl⟩ := fd
  cases h1; cases h2; cases h3
  rfl
theorem frame_ring_of : Frame 15 ["needs", "left"] := ⟨binds_ring_of, by decide, rfl, rfl, rfl, fun L x hx => by simp at hx; rcases hx with rfl | rfl <;> first | exact .inl rfl | exact .inr ⟨rfl, rfl⟩⟩

theorem natsD_iters (l : List Nat) : Iters (natsD l) (l.map fun n : Nat => D.int n) := by
  have := Iters.list ((intsOf l).map D.int)
  rw [show l.map (fun n : Nat => D.int n) = (intsOf l).map D.int by simp [intsOf, Function.comp_def]]
  exact this
theorem idxOf_ints (l : List Nat) (x : Nat) : (intsOf l).idxOf (x : Int) = l.idxOf x := by
  induction l with
  | nil => rfl
  | cons y l ih =>
    show (((y : Int)) :: intsOf l).idxOf (x : Int) = _
    rw [List.idxOf_cons, List.idxOf_cons, ih]
    by_cases h : y = x
    · subst h; simp
    · have h1 : (y == x) = false := beq_eq_false_iff_ne.mpr h
      have h2 : ((y : Int) == (x : Int)) = false := beq_eq_false_iff_ne.mpr fun e => h (by omega)
      rw [h1, h2]
theorem natsD_drop (l : List Nat) (n : Nat) : natsD (l.drop n) = .list (((intsOf l).map D.int).drop n) := by simp [natsD, intsOf, List.map_drop]

theorem body_ring_of (P : Pg g mg mb) {nl : List (List Nat)} {left : List Nat} (S : Stuck nl left) (hl50 : left.length ≤ 50) (hnl : nl.length ≤ 50) (hle : ∀ l ∈ nl, l.length ≤ 200) : BodyAt g k 15 ["needs", "left"] [needsD nl, natsD left] c (natsD (ringOf nl left)) c := fun L a q code => by
  have hsl : sizeLine = 16777216 := rfl
  refine WS.mid [ow "inside" (.dI (markD [])), fr "needs" (needsD nl), fr "left" (natsD left)] c (WS1.assignO (.inr ⟨rfl, rfl⟩) (WO.dict P.G).1 ⟨Sub.of ⟨rfl, rfl, rfl, trivial⟩, rfl⟩) ?_
  refine WS.mid [ow "inside" (.dI (markD left)), fr "needs" (needsD nl), fr "left" (natsD left)] c (WS1.forIn (WE.name rfl) (natsD_iters left) (fun j ρ c1 => ρ = [ow "inside" (.dI (markD (left.take j))), fr "needs" (needsD nl), fr "left" (natsD left)] ∧ c1 = c) ⟨_, fun _ _ h => h, rfl, rfl⟩ ?_ ?_) ?_
  · rintro j d1 ρ1 c1 hd ⟨rfl, rfl⟩
    rw [List.getElem?_map, Option.map_eq_some_iff] at hd
    obtain ⟨o, ho, rfl⟩ := hd
    have hj : j < left.length := (List.getElem?_eq_some_iff.mp ho).1
    have hno : o ∉ left.take j := fun hm => by
      have h1 := S.nd
      rw [← List.take_append_drop j left, List.nodup_append] at h1
      refine h1.2.2 o hm o ?_ rfl
      rw [List.drop_eq_getElem_cons hj]
      have := (List.getElem?_eq_some_iff.mp ho).2
      rw [this]; exact List.mem_cons_self ..
    refine ⟨_, WA.name (.inl rfl), ?_⟩
    refine WS.cons (WS1.put (d := .bool true) rfl WE.bool (WE.name rfl) (put_dI (markD_none hno) (by simp [markD]; omega)) (.nil ⟨_, ?_, rfl, rfl⟩))
    refine Sub.of ⟨?_, rfl, rfl, trivial⟩
    rw [List.take_add_one, ho]; simp [markD]
  · rintro ρ1 c1 ⟨rfl, rfl⟩
    rw [List.length_map, List.take_length]
    exact ⟨fun _ _ h => h, rfl⟩
  have hh : (left.head?).getD 0 ∈ left := by
    cases left with
    | nil => exact absurd rfl S.ne
    | cons x l => simp
  have hhd : ((intsOf left).map D.int)[(0 : Int).toNat]? = some (.int ((left.head?).getD 0 : Nat)) := by
    cases left with
    | nil => exact absurd rfl S.ne
    | cons x l => simp [intsOf]
  let R : List Nat → Rho := fun w => [ow "way" (natsD w), ow "inside" (.dI (markD left)), fr "needs" (needsD nl)]
  refine WS.mid (R [(left.head?).getD 0]) c (WS1.assignO (.inl rfl) (WO.list (.cons (WE.sub (WE.toC (WE.name rfl)) WE.int (SubV.list (by decide) (by decide) hhd)) .nil)) ⟨Sub.of ⟨rfl, rfl, rfl, trivial⟩, rfl⟩) ?_
  refine WS.cons (WS1.whileDo (fun m ρ c1 => c1 = c ∧ ∃ w, ρ = R w ∧ w.Nodup ∧ (∀ a ∈ w, a ∈ left) ∧ w ≠ [] ∧ m + w.length = left.length + 1 ∧ ringGo nl left m w = ringOf nl left) left.length
    ⟨_, fun _ _ h => h, rfl, [(left.head?).getD 0], rfl, by simp, by simpa using hh, by simp, by simp, rfl⟩ ?_)
  rintro m ρ1 c1 ⟨rfl, w, rfl, hnd, hw, hne, hm, hr⟩
  refine ⟨true, c1, WT.val WE.bool, fun _ => ?_, fun h => by cases h⟩
  have hwl : w.length ≤ left.length := List.Nodup.length_le_of_subset hnd hw
  obtain ⟨w', z, rfl⟩ : ∃ w' z, w = w' ++ [z] := ⟨w.dropLast, w.getLast hne, (List.dropLast_concat_getLast hne).symm⟩
  have hz : z ∈ left := hw z (by simp)
  obtain ⟨hx, hx0⟩ := S.next hz
  have hzn := S.lt z hz
  have hnd2 : (nl.map natsD)[((z : Nat) : Int).toNat]? = some (natsD nl[z]) := by simp [hzn]
  have hlz := hle nl[z] (List.getElem_mem hzn)
  rw [List.getElem?_eq_getElem hzn, Option.getD_some] at hx0
  cases m with
  | zero => simp at hm hwl; omega
  | succ m =>
    rw [ringGo] at hr
    simp only [List.getLast?_append, List.getLast?_singleton, Option.some_or, Option.getD_some] at hr
    generalize ringNext nl left z = x at hr hx hx0
    have hx0' : ((nl[z].filter fun x => decide (x ∈ left)).map fun n : Nat => D.int n)[(0 : Int).toNat]? = some (.int x) := by
      show (List.map _ _)[0]? = _
      rw [List.getElem?_map, hx0]; rfl
    refine WS.cons (WS1.assign (d := .int x) (.inl rfl) (WE.sub (WO.toC (WO.compO [ow "inside" (.dI (markD left))] [("inside", L + 1)] (fun n : Nat => D.int n) nl[z] (fun x => decide (x ∈ left)) (fun n : Nat => D.int n)
      (WE.sub (WE.toC (WE.name rfl)) (WE.sub (WC.name rfl) (WE.neg WE.int) (SubV.last (d := .int z) (by simp [intsOf]))) (SubV.list (by omega) (by omega) hnd2)) (natsD_iters _) (CompCx.of rfl ⟨⟨rfl, .inl rfl, rfl, .inl rfl, rfl⟩, trivial⟩ ⟨rfl, trivial⟩)
      (fun C n hn => ?_) (fun C n hn _ => WE.name rfl) (by omega) rfl)) WE.int (SubV.list (by decide) (by decide) hx0')) ?_)
    · show WTests _ _ _ _ _ _ (decide (n ∈ left))
      rw [← markD_some]
      exact WTests.one (WCmp.toT (WCmp.vc (WE.name rfl) (WC.name rfl) CmpC.in_dI))
    refine WS.cons (WS1.ite (WCmp.toT (WCmp.vc (WE.name rfl) (WC.name rfl) (CmpC.in_list (kinds_nats _ _)))) (fun hb => ?_) fun hb => ?_)
    · rw [natsD_any] at hb
      have hb : x ∈ w' ++ [z] := by simpa using hb
      rw [if_pos hb] at hr
      refine WS.cons (WS1.ret (d := natsD (ringOf nl left)) ?_ ⟨rfl, .inl rfl⟩)
      rw [← hr, natsD_drop, ← idxOf_ints]
      refine WO.toE (WO.listFrom (WC.name rfl) (WE.index rfl (WE.name rfl) ?_ ?_) ?_)
      · simp only [intsOf, List.mem_map]; exact ⟨x, hb, rfl⟩
      · simp only [intsOf, List.length_map]; omega
      · rw [intsOf_len]; omega
    · rw [natsD_any] at hb
      have hb : x ∉ w' ++ [z] := by simpa using hb
      rw [if_neg hb] at hr
      refine .nil (WS.cons (WS1.append rfl (WE.name rfl) (.nil ⟨m, R (w' ++ [z] ++ [x]), by omega, ?_, rfl, w' ++ [z] ++ [x], rfl, ?_, ?_, by simp, ?_, hr⟩) (by rw [intsOf_len]; omega)))
      · rw [← natsD_snoc]
        exact Sub.of ⟨rfl, rfl, rfl, trivial⟩
      · exact List.nodup_append.mpr ⟨hnd, by simp, fun u hu v hv => by rw [List.mem_singleton.mp hv]; rintro rfl; exact hb hu⟩
      · intro u hu
        rcases List.mem_append.mp hu with q | q
        · exact hw u q
        · rw [List.mem_singleton.mp q]; exact hx
      · simp at hm ⊢; omega
end Mine
end

section
open PySem PySem.W PyProof.Rows
set_option linter.unusedVariables false
set_option linter.unusedSimpArgs false
set_option maxRecDepth 100000
namespace Mine
variable {g : Cx} {k : Nat} {env : Env} {B Z Z' Z'' : Zm} {ad : Str → Addr} {ρ : Rho} {c c' c'' c1 c2 c3 : Int} {h h' h'' : Heap} {e l r : Expr} {d d1 d2 : D} {p p1 p2 p3 p4 p5 : Pos} {mg mb : Str → Option Value}
variable {K K' : Fl → Rho → Int → Prop} {ss : List Stmt} {st : Stmt}

theorem ringGo_inv {nl : List (List Nat)} {left : List Nat} (S : Stuck nl left) : ∀ (m : Nat) (w : List Nat), w ≠ [] → w.Nodup → (∀ a ∈ w, a ∈ left) → (ringGo nl left m w).Nodup ∧ ∀ a ∈ ringGo nl left m w, a ∈ left
  | 0, w, _, _, _ => ⟨.nil, by simp [ringGo]⟩
  | m + 1, w, hne, hn, hw => by
    rw [ringGo]
    have hz : (w.getLast?).getD 0 ∈ left := by
      rw [List.getLast?_eq_some_getLast hne]; exact hw _ (List.getLast_mem hne)
    have hx := (S.next hz).1
    split
    · exact ⟨hn.sublist (List.drop_sublist _ _), fun a ha => hw a (List.mem_of_mem_drop ha)⟩
    · rename_i hb
      refine ringGo_inv S m _ (by simp) (List.nodup_append.mpr ⟨hn, by simp, fun u hu v hv => by rw [List.mem_singleton.mp hv]; rintro rfl; exact hb hu⟩) fun a ha => ?_
      rcases List.mem_append.mp ha with q | q
      · exact hw a q
      · rw [List.mem_singleton.mp q]; exact hx
theorem ringOf_inv {nl : List (List Nat)} {left : List Nat} (S : Stuck nl left) : (ringOf nl left).Nodup ∧ ∀ a ∈ ringOf nl left, a ∈ left := by
  refine ringGo_inv S _ _ (by simp) (by simp) fun a ha => ?_
  rw [List.mem_singleton.mp ha]
  have := S.ne
  cases left with
  | nil => exact absurd rfl this
  | cons x l => simp

theorem len_app (a b : Str) : (a ++ b).length = a.length + b.length := by
  show (a.cps ++ b.cps).size = _
  rw [Array.size_append]; rfl
theorem sortS_len (b : Bool) : (sortS b).length = 4 := by cases b <;> rfl
noncomputable def lineOf (p : Part) : Str := (p.nm ++ " ") ++ sortS p.body
noncomputable def linesOf (parts : List Part) (ring : List Nat) : List Str := ring.map fun a => match parts[a]? with | some p => lineOf p | none => ""
theorem binds_ring_text : Binds 17 ["parts", "ring"] := binds2 fun a b fd h1 h2 h3 => by
  obtain ⟨n, q, ps, bd, sc, gl, cl, df, kd, doc, pm, an, cd, ct, bl⟩ := fd
  cases h1; cases h2; cases h3
  rfl
theorem frame_ring_text : Frame 17 ["parts", "ring"] := ⟨binds_ring_text, by decide, rfl, rfl, rfl, fun L x hx => by simp at hx; rcases hx with rfl | rfl <;> first | exact .inl rfl | exact .inr ⟨rfl, rfl⟩⟩
theorem sum_le {xs : List Str} {m : Nat} (h : ∀ x ∈ xs, x.length ≤ m) : (xs.map (·.length)).sum ≤ xs.length * m := by
  induction xs with
  | nil => simp
  | cons x xs ih =>
    have h1 := h x (List.mem_cons_self ..)
    have h2 := ih fun y hy => h y (List.mem_cons_of_mem _ hy)
    simp only [List.map_cons, List.sum_cons, List.length_cons, Nat.add_mul]; omega
theorem body_ring_text {parts : List Part} (G : GoodParts parts) {ring : List Nat} (hr : ∀ a ∈ ring, a < parts.length) (hl : ring.length ≤ 50) : BodyAt g k 17 ["parts", "ring"] [partsD parts, natsD ring] c (.str (Txt.join ", " (linesOf parts ring))) c := fun L a q code => by
  have hsl : sizeLine = 16777216 := rfl
  have hlen := G.len
  have hll : ∀ x ∈ linesOf parts ring, x.length ≤ 200 := fun x hx => by
    obtain ⟨a, ha, rfl⟩ := List.mem_map.mp hx
    rw [List.getElem?_eq_getElem (hr a ha)]
    have := G.nmlen _ (List.getElem_mem (hr a ha))
    show (lineOf _).length ≤ 200
    unfold lineOf
    rw [len_app, len_app]
    have h1 : (" " : Str).length = 1 := rfl
    have h2 := sortS_len (parts[a]'(hr a ha)).body
    omega
  have hsum := sum_le hll
  have hln : (linesOf parts ring).length = ring.length := by simp [linesOf]
  refine WS.cons (WS1.ret (WE.join (xs := linesOf parts ring) (WO.toC (WO.compO [fr "parts" (partsD parts)] [("parts", L + 1)] (fun n : Nat => D.int n) ring (fun _ => true) (fun a => .str (match parts[a]? with | some p => lineOf p | none => ""))
    (WE.name rfl) (natsD_iters ring) (CompCx.of rfl ⟨⟨rfl, .inl rfl, rfl, .inl rfl, rfl⟩, trivial⟩ ⟨rfl, trivial⟩) (fun C n hn => .nil) (fun C n hn _ => ?_) (by omega) ?_)) ?_) ⟨rfl, .inl rfl⟩)
  · have hd2 := parts_at (hr n hn)
    have hn63 := hr n hn
    have hnm := G.nmlen _ (List.getElem_mem (hr n hn))
    rw [List.getElem?_eq_getElem (hr n hn)]
    show WE _ _ _ _ _ _ (.str (lineOf parts[n])) _
    have h2 := sortS_len parts[n].body
    generalize hp : parts[n] = pt at hd2 hnm h2
    have h1 : (" " : Str).length = 1 := rfl
    exact WE.binop (WE.binop (WE.sub (WE.toC (WE.sub (WE.toC (WE.name rfl)) (WE.name rfl) (SubV.list (by omega) (by omega) hd2))) WE.int (SubV.tup (by decide) (by decide) rfl)) WE.str (OpV.str_add (by omega)))
      (WE.sub (WE.toC (WE.sub (WE.toC (WE.name rfl)) (WE.name rfl) (SubV.list (by omega) (by omega) hd2))) WE.int (SubV.tup (by decide) (by decide) rfl)) (OpV.str_add (by show (pt.nm ++ " ").length + (sortS pt.body).length ≤ sizeLine; rw [len_app]; omega))
  · rw [List.filter_eq_self.mpr (fun _ _ => rfl)]; simp [linesOf]
  · have : (", " : Str).length = 2 := rfl
    rw [this, hln]
    rw [hln] at hsum
    omega
end Mine
end

section
open PySem PySem.W PyProof.Rows
set_option linter.unusedVariables false
set_option linter.unusedSimpArgs false
set_option maxRecDepth 100000
namespace Mine
variable {g : Cx} {k : Nat} {env : Env} {B Z Z' Z'' : Zm} {ad : Str → Addr} {ρ : Rho} {c c' c'' c1 c2 c3 : Int} {h h' h'' : Heap} {e l r : Expr} {d d1 d2 : D} {p p1 p2 p3 p4 p5 : Pos} {mg mb : Str → Option Value}
variable {K K' : Fl → Rho → Int → Prop} {ss : List Stmt} {st : Stmt}

/-! the clock, read and moved -/
theorem clk_sub {A : Around} {E : Value → Shared → Prop} {s : Shared} {Q : Value → Shared → Prop} {x : Str} {i : Int} {kd : Nat} (ok : OkA k A) (sim : SimA g env B Z ad ρ c s.heap) (hx : ρ.lookup x = some (.f .clk)) (hi : i = 0 ∨ i = 1)
    (hq : ∀ v tk, (i = 0 → g.Rep Z v (.int c)) → (i = 1 → g.Rep Z v (.list (g.sc.map D.int))) → Q v { s with toks := tk }) (hd : (x == ("__debug__" : Str)) = false) (hc : (x == ("__classdict__" : Str)) = false) :
    wpAny g.M A (eval (.Subscript (.Name x p1) (.Constant (.int i) kd p2) p) env) Q E s := by
  obtain ⟨v, hl, hr⟩ := sim.vars x _ hx
  cases hr
  have ev : ∀ {Q : Value → Shared → Prop}, Q (.ref g.κ) s → wpAny g.M A (eval (.Name x p1) env) Q E s := fun hq => by
    refine wpAny_Name ?_ hd
    rcases hl with ⟨hk, m, hn, hm⟩ | ⟨hk, a, ha, hc2⟩
    · exact wpAny_loadName_local sim.fn hk hn hm hq
    · rcases hk with hk | hk
      · exact wpAny_loadName_cell sim.fn hk ha hc2 hq
      · exact wpAny_loadName_free sim.fn hk ha hc2 hq hc
  obtain ⟨t, il, rs⟩ := sim.clk
  refine Subscript_ (ev (wpAny_Constant_int ?_))
  obtain ⟨ops, ho⟩ := subs_any (.Constant (.int i) kd p2) (.ref g.κ) (.int i s.toks)
  refine tail_any (T := "list") il.typeIs slot_list_getitem.lookup ?_ ho
  rcases hi with rfl | rfl
  · exact wpAny_getItem_list (x := .int c t) il (by decide) (by decide) rfl (hq _ _ (fun _ => .int _ _) fun h => by cases h)
  · exact wpAny_getItem_list (x := .ref g.sa) il (by decide) (by decide) rfl (hq _ _ (fun h => by cases h) fun _ => rs)
theorem WE.clk0 {x : Str} {kd : Nat} (hx : ρ.lookup x = some (.f .clk)) (hd : (x == ("__debug__" : Str)) = false := by decide) (hc : (x == ("__classdict__" : Str)) = false := by decide) : WE g k env ρ c (.Subscript (.Name x p1) (.Constant (.int 0) kd p2) p) (.int c) c := .mk fun A E B Z ad s ok sim =>
  clk_sub ok sim hx (.inl rfl) (fun v tk h0 _ => ⟨Z, sim.refl, h0 rfl⟩) hd hc
theorem WE.clk1 {x : Str} {kd : Nat} (hx : ρ.lookup x = some (.f .clk)) (hd : (x == ("__debug__" : Str)) = false := by decide) (hc : (x == ("__classdict__" : Str)) = false := by decide) : WE g k env ρ c (.Subscript (.Name x p1) (.Constant (.int 1) kd p2) p) (.list (g.sc.map D.int)) c := .mk fun A E B Z ad s ok sim =>
  clk_sub ok sim hx (.inr rfl) (fun v tk _ h1 => ⟨Z, sim.refl, h1 rfl⟩) hd hc

theorem WS1.tick {x : Str} {kd kd' : Nat} (hx : ρ.lookup x = some (.f .clk)) (hk : K .next ρ (c + 1)) (hi : ∀ ov iv new, augStore (.Constant (.int 0) kd p2) ov iv new = (do holding [new, ov, iv] (setItem ov iv new); release [new, ov, iv] []; pure .next) := by intros; rfl)
    (hd : (x == ("__debug__" : Str)) = false := by decide) (hc : (x == ("__classdict__" : Str)) = false := by decide) :
    WS1 g k env ρ c (.AugAssign (.Subscript (.Name x p1) (.Constant (.int 0) kd p2) p3) .Add (.Constant (.int 1) kd' p4) p) K := .mk fun A E B Z ad s ok sim => by
  obtain ⟨v, hl, hr⟩ := sim.vars x _ hx
  cases hr
  have ev : ∀ {Q : Value → Shared → Prop}, Q (.ref g.κ) s → wpAny g.M A (eval (.Name x p1) env) Q E s := fun hq => by
    refine wpAny_Name ?_ hd
    rcases hl with ⟨hk, m, hn, hm⟩ | ⟨hk, a, ha, hc2⟩
    · exact wpAny_loadName_local sim.fn hk hn hm hq
    · rcases hk with hk | hk
      · exact wpAny_loadName_cell sim.fn hk ha hc2 hq
      · exact wpAny_loadName_free sim.fn hk ha hc2 hq hc
  obtain ⟨t, il, rs⟩ := sim.clk
  refine wpAny_AugAssign_SubscriptAny (ev (wpAny_Constant_int (wpAny_getItem_list (x := .int c t) il (by decide) (by decide) rfl (wpAny_Constant_int (wpAny_iadd_int (wpAny_setItem_list il (by decide) (by decide) (by simp) fun h' il' same => ?_)))))) hi
  refine ⟨Z, ad, ρ, c + 1, .next, .refl, sim.tick same ⟨_, il', rs⟩, trivial, hk⟩

/-! _law_tick -/
noncomputable def tickV (sc : List Int) (c sides : Int) : Int := if c + 1 ≤ (sc.length : Int) then ((sc[(c + 1 - 1).toNat]?).getD 0).fmod sides else (3 * (c + 1) + ((c + 1) * (c + 1)).fdiv 5).fmod sides
theorem tickV_range {sc : List Int} {c sides : Int} (h : 0 < sides) : 0 ≤ tickV sc c sides ∧ tickV sc c sides < sides := by
  unfold tickV
  split <;> exact ⟨Int.fmod_nonneg_of_pos _ h, Int.fmod_lt_of_pos _ h⟩
theorem binds_tick : Binds 21 ["clock", "sides"] := binds2 fun a b fd h1 h2 h3 => by
  obtain ⟨n, q, ps, bd, sc, gl, cl, df, kd, doc, pm, an, cd, ct, bl⟩ := fd
  cases h1; cases h2; cases h3
  rfl
theorem frame_tick : Frame 21 ["clock", "sides"] := ⟨binds_tick, by decide, rfl, rfl, rfl, fun L x hx => by simp at hx; rcases hx with rfl | rfl <;> first | exact .inl rfl | exact .inr ⟨rfl, rfl⟩⟩
theorem body_tick (P : Pg g mg mb) {sides : Int} (hs : sides ≠ 0) (h0 : 0 ≤ c) (h1 : c ≤ 10000) (hsc : g.sc.length ≤ 100) : BodyAt g k 21 ["clock", "sides"] [.clk, .int sides] c (.int (tickV g.sc c sides)) (c + 1) := fun L a q code => by
  have hsl : sizeLine = 16777216 := rfl
  refine WS.cons (WS1.tick rfl ?_)
  refine WS.cons (WS1.ite (WCmp.toT (WCmp.vv (WE.clk0 rfl) (WE.len P.G rfl (WE.toC (WE.clk1 rfl)) (.inl ⟨_, rfl, List.length_map ..⟩) (by omega)) CmpV.int_le)) (fun hb => ?_) fun hb => ?_)
  · have hb : c + 1 ≤ (g.sc.length : Int) := by simpa using hb
    have hlt : (c + 1 - 1).toNat < g.sc.length := by omega
    have hat : (g.sc.map D.int)[(c + 1 - 1).toNat]? = some (.int ((g.sc[(c + 1 - 1).toNat]?).getD 0)) := by rw [List.getElem?_map, List.getElem?_eq_getElem hlt]; rfl
    refine WS.cons (WS1.ret (WE.binop (WE.sub (WE.toC (WE.clk1 rfl)) (WE.binop (WE.clk0 rfl) WE.int OpV.int_sub) (SubV.list (by omega) (by omega) hat)) (WE.name rfl) (OpV.int_mod hs)) ⟨rfl, .inl ?_⟩)
    unfold tickV; rw [if_pos hb]
  · have hb : ¬ c + 1 ≤ (g.sc.length : Int) := by simpa using hb
    refine .nil (WS.cons (WS1.ret (WE.binop (WE.binop (WE.binop WE.int (WE.clk0 rfl) (OpV.int_mul ?_)) (WE.binop (WE.binop (WE.clk0 rfl) (WE.clk0 rfl) (OpV.int_mul ?_)) WE.int (OpV.int_fdiv (by decide) (PyProof.noPylong_small (by decide)))) OpV.int_add) (WE.name rfl) (OpV.int_mod hs)) ⟨rfl, .inl ?_⟩))
    · exact IntMulOk.of_left (intBits_le_64 (by omega) (by omega))
    · exact IntMulOk.of_left (intBits_le_64 (by omega) (by omega))
    · unfold tickV; rw [if_neg hb]
theorem tick_call (P : Pg g mg mb) {sides : Int} (hs : sides ≠ 0) (h0 : 0 ≤ c) (h1 : c ≤ 10000) (hsc : g.sc.length ≤ 100) : Calls g mg 1 "_law_tick" [.clk, .int sides] c (.int (tickV g.sc c sides)) (c + 1) :=
  P.tick.call (k := 0) P.G frame_tick rfl (body_tick P hs h0 h1 hsc)

/-! _law_word -/
noncomputable def nm (i : Nat) : Str := "u" ++ Str.ofString (toString (i : Int))
theorem binds_word : Binds 22 ["unit"] := binds1 fun a fd h1 h2 h3 => by
  obtain ⟨n, q, ps, bd, sc, gl, cl, df, kd, doc, pm, an, cd, ct, bl⟩ := fd
  cases h1; cases h2; cases h3
  rfl
theorem frame_word : Frame 22 ["unit"] := ⟨binds_word, by decide, rfl, rfl, rfl, fun L x hx => by simp at hx; subst hx; first | exact .inl rfl | exact .inr ⟨rfl, rfl⟩⟩
theorem nm_small : ∀ i : Nat, i < 10 → (Str.ofString (toString (i : Int))).length ≤ 10 := by decide
theorem body_word (P : Pg g mg mb) {i : Nat} (hi : i < 10) : BodyAt g k 22 ["unit"] [.int i] c (.str (nm i)) c := fun L a q code => by
  have hsl : sizeLine = 16777216 := rfl
  have h1 := nm_small i hi
  refine WS.cons (WS1.ret (WE.binop WE.str (WE.strOf P.G rfl (WE.name rfl) ?_) (OpV.str_add ?_)) ⟨rfl, .inl rfl⟩)
  · have : ((i : Int)).natAbs = i := by omega
    rw [this]
    have : i.log2 ≤ i := Nat.log2_le_self i
    omega
  · have : ("u" : Str).length = 1 := rfl
    omega
theorem word_call (P : Pg g mg mb) {i : Nat} (hi : i < 10) : Calls g mg 1 "_law_word" [.int i] c (.str (nm i)) c := P.word.call (k := 0) P.G frame_word rfl (body_word P hi)
end Mine
end

section
open PySem PySem.W PyProof.Rows
set_option linter.unusedVariables false
set_option linter.unusedSimpArgs false
set_option maxRecDepth 100000
namespace Mine
variable {g : Cx} {k : Nat} {env : Env} {B Z Z' Z'' : Zm} {ad : Str → Addr} {ρ : Rho} {c c' c'' c1 c2 c3 : Int} {h h' h'' : Heap} {e l r : Expr} {d d1 d2 : D} {p p1 p2 p3 p4 p5 : Pos} {mg mb : Str → Option Value}
variable {K K' : Fl → Rho → Int → Prop} {ss : List Stmt} {st : Stmt}

theorem WO.listOfL (G : Gd g mg mb) (hx : env.kindOf "list" = some .globalImplicit) {ds : List D} (hv : WC g k env ρ c e (.list ds) c') (hsz : ds.length ≤ sizeLine)
    (hs : starEach [e] env = [(false, eval e env)] := by rfl) : WO g k env ρ c (.Call (.Name "list" p1) [e] [] p2) (.list ds) c' := .mk fun A E B Z ad s ok sim => by
  refine wpAny_Call_NameR (evalBuilt G sim rfl hx G.bList.1 G.bList.2 (args1 hs ?_) (by decide))
  refine PySem.callWith_type rfl (Calls.evalArgs_plain (Calls.spliced_cons (wpAny_mono (hv.go A E B Z ad s ok sim) (fun v s1 ⟨Z1, a, ha, hk, x1, ow⟩ => Calls.spliced_nil ?_) fun _ _ e => e)))
  subst ha
  obtain ⟨vs, ⟨n, pl⟩, rl⟩ := ow
  refine call_list_seq a (.inl rfl) pl rfl rfl (fun h' c'' hk' hn => ?_) (by simp only [List.size_toArray, rl.length]; exact hsz)
  exact ⟨Z1, _, rfl, x1.trans (.grow x1.zin x1.clk hk'), x1.back (fresh_none _), x1.zin.fresh, vs, ⟨c'', hn⟩, rl⟩

/-! _law_walk -/
noncomputable def kvD (l : List (Nat × List Nat)) : D := .dI (l.map fun e => ((e.1 : Int), natsD e.2))
theorem kv_look (l : List (Nat × List Nat)) (x : Nat) : (l.map fun e => ((e.1 : Int), natsD e.2)).lookup (x : Int) = (l.lookup x).map natsD := by
  induction l with
  | nil => rfl
  | cons y l ih =>
    obtain ⟨y, v⟩ := y
    rw [List.map_cons, List.lookup_cons, List.lookup_cons, ih]
    by_cases h : x = y
    · subst h; simp
    · have h1 : (x == y) = false := beq_eq_false_iff_ne.mpr h
      have h2 : ((x : Int) == (y : Int)) = false := beq_eq_false_iff_ne.mpr fun e => h (by omega)
      rw [h1, h2]
/-- where a key leads, in the law's walk -/
noncomputable def aheadOf (l : List (Nat × List Nat)) (key : Nat) : List Nat := ((l.lookup key).getD []) ++ [key + 1 - key % 2]
noncomputable def wPut (l : List (Nat × List Nat)) (f : List Nat) (o : Nat) : List Nat := if (l.lookup o).isSome ∧ o ∉ f then f ++ [o] else f
noncomputable def wTurn (l : List (Nat × List Nat)) (f : List Nat) (key : Nat) : List Nat := (aheadOf l key).foldl (wPut l) f
noncomputable def walkGo (l : List (Nat × List Nat)) : Nat → Nat → List Nat → List Nat
  | 0, _, f => f
  | m + 1, at_, f => match f[at_]? with | some key => walkGo l m (at_ + 1) (wTurn l f key) | none => f
noncomputable def walkOf (l : List (Nat × List Nat)) (begun : List Nat) : List Nat := walkGo l l.length 0 begun
structure GoodKv (l : List (Nat × List Nat)) : Prop where
  nd : (l.map (·.1)).Nodup
  len : l.length ≤ 50
  each : ∀ e ∈ l, e.2.length ≤ 200
theorem look_mem {l : List (Nat × List Nat)} {x : Nat} : (l.lookup x).isSome = true ↔ x ∈ l.map (·.1) := by
  induction l with
  | nil => simp
  | cons y l ih =>
    obtain ⟨y, v⟩ := y
    rw [List.lookup_cons]
    by_cases h : x = y
    · subst h; simp
    · have h1 : (x == y) = false := beq_eq_false_iff_ne.mpr h
      rw [h1]; simp only [ih, List.map_cons, List.mem_cons, h, false_or]
structure WIn (l : List (Nat × List Nat)) (f : List Nat) : Prop where
  nd : f.Nodup
  sub : ∀ a ∈ f, a ∈ l.map (·.1)
theorem WIn.len {l : List (Nat × List Nat)} {f : List Nat} (x : WIn l f) : f.length ≤ l.length := by
  have := List.Nodup.length_le_of_subset x.nd x.sub
  simpa using this
theorem WIn.put {l : List (Nat × List Nat)} {f : List Nat} (x : WIn l f) (o : Nat) : WIn l (wPut l f o) := by
  unfold wPut
  split
  · rename_i h
    refine ⟨List.nodup_append.mpr ⟨x.nd, by simp, fun u hu v hv => by rw [List.mem_singleton.mp hv]; rintro rfl; exact h.2 hu⟩, fun a ha => ?_⟩
    rcases List.mem_append.mp ha with q | q
    · exact x.sub a q
    · rw [List.mem_singleton.mp q]; exact look_mem.mp h.1
  · exact x
theorem WIn.puts {l : List (Nat × List Nat)} : ∀ (os : List Nat) {f : List Nat}, WIn l f → WIn l (os.foldl (wPut l) f)
  | [], f, x => x
  | o :: os, f, x => WIn.puts os (x.put o)
theorem mem_of_lookupN {α : Type} {x : Nat} {v : α} : ∀ {l : List (Nat × α)}, l.lookup x = some v → (x, v) ∈ l
  | (y, u) :: r, h => by
    rw [List.lookup_cons] at h
    by_cases hb : x = y
    · subst hb; simp at h; subst h; exact List.mem_cons_self ..
    · have h1 : (x == y) = false := beq_eq_false_iff_ne.mpr hb
      rw [h1] at h
      exact List.mem_cons_of_mem _ (mem_of_lookupN h)
theorem wPuts_le (l : List (Nat × List Nat)) : ∀ (os : List Nat) (f : List Nat), f.length ≤ (os.foldl (wPut l) f).length
  | [], f => Nat.le_refl _
  | o :: os, f => Nat.le_trans (by unfold wPut; split <;> simp) (wPuts_le l os (wPut l f o))
theorem wTurn_le (l : List (Nat × List Nat)) (f : List Nat) (key : Nat) : f.length ≤ (wTurn l f key).length := wPuts_le l _ f
theorem binds_walk : Binds 25 ["ahead", "begun"] := binds2 fun a b fd h1 h2 h3 => by
  obtain ⟨n, q, ps, bd, sc, gl, cl, df, kd, doc, pm, an, cd, ct, bl⟩ := fd
  cases h1; cases h2; cases h3
  rfl
theorem frame_walk : Frame 25 ["ahead", "begun"] := ⟨binds_walk, by decide, rfl, rfl, rfl, fun L x hx => by simp at hx; rcases hx with rfl | rfl <;> first | exact .inl rfl | exact .inr ⟨rfl, rfl⟩⟩
theorem body_walk (P : Pg g mg mb) {l : List (Nat × List Nat)} (G : GoodKv l) {begun : List Nat} (hb : WIn l begun) (hk : ∀ x ∈ l.map (·.1), x ≤ 1000) : BodyAt g k 25 ["ahead", "begun"] [kvD l, natsD begun] c (natsD (walkOf l begun)) c := fun L a q code => by
  have hsl : sizeLine = 16777216 := rfl
  have hlen := G.len
  have hbl := hb.len
  let R : List Nat → Nat → Rho := fun f at_ => [fr "at" (.int at_), ow "found" (natsD f), fr "ahead" (kvD l)]
  refine WS.cons (WS1.assignO (.inl rfl) (WO.listOfL P.G rfl (WE.toC (WE.name rfl)) (by rw [intsOf_len]; omega)) ?_)
  refine WS.mid (R begun 0) c (WS1.assign (.inl rfl) WE.int ⟨Sub.of ⟨rfl, rfl, rfl, trivial⟩, rfl⟩) ?_
  refine WS.cons (WS1.whileDo (fun m ρ c1 => c1 = c ∧ ∃ f at_, ρ = R f at_ ∧ WIn l f ∧ at_ ≤ f.length ∧ m + at_ = l.length ∧ walkGo l m at_ f = walkOf l begun) l.length ⟨_, fun _ _ h => h, rfl, begun, 0, rfl, hb, Nat.zero_le _, rfl, rfl⟩ ?_)
  rintro m ρ1 c1 ⟨rfl, f, at_, rfl, inv, hat, hm, hr⟩
  have hfl := inv.len
  refine ⟨_, c1, WCmp.toT (WCmp.vv (WE.name rfl) (WE.len P.G rfl (WC.name rfl) (.inl ⟨_, rfl, rfl⟩) (by rw [intsOf_len]; omega)) CmpV.int_lt), fun hb => ?_, fun hb => ?_⟩
  · have hb : at_ < f.length := by rw [intsOf_len] at hb; simpa using hb
    have hkey : ((intsOf f).map D.int)[((at_ : Nat) : Int).toNat]? = some (.int f[at_]) := by simp [intsOf, hb]
    have hkm := inv.sub f[at_] (List.getElem_mem hb)
    cases m with
    | zero => exfalso; omega
    | succ m =>
      rw [walkGo, List.getElem?_eq_getElem hb] at hr
      simp only at hr
      generalize hke : f[at_] = key at hkey hkm hr
      have hk1000 := hk key hkm
      obtain ⟨v, hv⟩ := Option.isSome_iff_exists.mp (look_mem.mpr hkm)
      have hlk : (l.map fun e => ((e.1 : Int), natsD e.2)).lookup (key : Int) = some (natsD v) := by rw [kv_look, hv]; rfl
      have hve : (key, v) ∈ l := mem_of_lookupN hv
      have hvl := G.each _ hve
      simp only at hvl
      refine WS.cons (WS1.assign (.inl rfl) (WE.sub (WC.name rfl) (WE.name rfl) (SubV.list (by omega) (by omega) hkey)) ?_)
      refine WS.mid [fr "key" (.int key), fr "at" (.int (at_ + 1 : Nat)), ow "found" (natsD f), fr "ahead" (kvD l)] c1 (WS1.augInt (.inl rfl) rfl WE.int ⟨Sub.of ⟨rfl, rfl, rfl, rfl, trivial⟩, rfl⟩) ?_
      have hfm : ((key : Int) + 1 - (key : Int).fmod 2) = ((key + 1 - key % 2 : Nat) : Int) := by
        rw [Int.fmod_eq_emod_of_nonneg _ (by decide)]; omega
      have hal : natsD (aheadOf l key) = .list ((intsOf v).map D.int ++ [.int ((key : Int) + 1 - (key : Int).fmod 2)]) := by
        rw [hfm]; unfold aheadOf; rw [hv, Option.getD_some, natsD_snoc]
      have haln : (aheadOf l key).length ≤ 201 := by unfold aheadOf; rw [hv]; simp; omega
      refine WS.mid (ow "found" (natsD (wTurn l f key)) :: [fr "at" (.int (at_ + 1 : Nat)), fr "ahead" (kvD l)]) c1 (WS1.forIn (d := natsD (aheadOf l key)) (c1 := c1) ?_ (natsD_iters _)
        (fun j ρ c2 => c2 = c1 ∧ ρ = [ow "found" (natsD (((aheadOf l key).take j).foldl (wPut l) f)), fr "at" (.int (at_ + 1 : Nat)), fr "ahead" (kvD l)]) ⟨[ow "found" (natsD f), fr "at" (.int (at_ + 1 : Nat)), fr "ahead" (kvD l)], Sub.of ⟨rfl, rfl, rfl, trivial⟩, rfl, rfl⟩ ?_ ?_) ?_
      · rw [hal]
        exact WO.toE (WO.binop (WE.sub (WE.toC (WE.name rfl)) (WE.name rfl) (SubV.dI hlk)) (WO.toE (WO.list (.cons (WE.binop (WE.binop (WE.name rfl) WE.int OpV.int_add) (WE.binop (WE.name rfl) WE.int (OpV.int_mod (by decide))) OpV.int_sub) .nil))) (OpO.list_add (by rw [intsOf_len]; simp; omega)))
      · rintro j d1 ρ1 c2 hd ⟨rfl, rfl⟩
        rw [List.getElem?_map, Option.map_eq_some_iff] at hd
        obtain ⟨o, ho, rfl⟩ := hd
        have invj := WIn.puts ((aheadOf l key).take j) inv
        have hjl := invj.len
        refine ⟨_, WA.name (.inl rfl), ?_⟩
        rw [List.take_add_one, ho, Option.toList_some, List.foldl_append, List.foldl_cons, List.foldl_nil]
        generalize ((aheadOf l key).take j).foldl (wPut l) f = F at invj hjl
        refine WS.cons (WS1.ite (WTs.toT (WTs.and_cons (WCmp.toT (WCmp.vc (WE.name rfl) (WE.toC (WE.name rfl)) CmpC.in_dI)) fun _ => WTs.and_cons (WCmp.toT (WCmp.vc (WE.name rfl) (WC.name rfl) (CmpC.notIn_list (kinds_nats _ _)))) fun _ => WTs.and_nil)) (fun hb => ?_) fun hb => ?_)
        · rw [natsD_any, kv_look] at hb
          have hb : (l.lookup o).isSome = true ∧ o ∉ F := by simpa using hb
          refine WS.cons (WS1.append rfl (WE.name rfl) (.nil (.nil ⟨_, ?_, rfl, rfl⟩)) (by rw [intsOf_len]; omega))
          unfold wPut; rw [if_pos hb, natsD_snoc]
          exact Sub.of ⟨rfl, rfl, rfl, trivial⟩
        · rw [natsD_any, kv_look] at hb
          have hb : ¬ ((l.lookup o).isSome = true ∧ o ∉ F) := by
            rintro ⟨q1, q2⟩; simp [q1, q2] at hb
          refine .nil (.nil ⟨_, ?_, rfl, rfl⟩)
          unfold wPut; rw [if_neg hb]
          exact Sub.of ⟨rfl, rfl, rfl, trivial⟩
      · rintro ρ1 c2 ⟨rfl, rfl⟩
        rw [List.length_map, List.take_length]
        exact ⟨Sub.of ⟨rfl, rfl, rfl, trivial⟩, rfl⟩
      · have inv2 := WIn.puts (aheadOf l key) inv
        have hge : f.length ≤ (wTurn l f key).length := wTurn_le l f key
        refine .nil ⟨m, R (wTurn l f key) (at_ + 1), by omega, Sub.of ⟨rfl, rfl, rfl, trivial⟩, rfl, _, _, rfl, inv2, by omega, by omega, hr⟩
  · have hb : ¬ at_ < f.length := by rw [intsOf_len] at hb; simpa using hb
    have e : f = walkOf l begun := by
      rw [← hr]
      cases m with
      | zero => rfl
      | succ m => rw [walkGo, List.getElem?_eq_none (by omega)]
    rw [← e]
    exact WS.freeze (x := "found") rfl (WS.cons (WS1.ret (WE.name rfl) ⟨rfl, .inl rfl⟩))
end Mine
end

section
open PySem PySem.W PyProof.Rows
set_option linter.unusedVariables false
set_option linter.unusedSimpArgs false
set_option maxRecDepth 100000
namespace Mine
variable {g : Cx} {k : Nat} {env : Env} {B Z Z' Z'' : Zm} {ad : Str → Addr} {ρ : Rho} {c c' c'' c1 c2 c3 : Int} {h h' h'' : Heap} {e l r : Expr} {d d1 d2 : D} {p p1 p2 p3 p4 p5 : Pos} {mg mb : Str → Option Value}
variable {K K' : Fl → Rho → Int → Prop} {ss : List Stmt} {st : Stmt}

noncomputable def tickN (sc : List Int) (c : Int) (sides : Nat) : Nat := (tickV sc c sides).toNat
theorem tickN_eq {sc : List Int} {sides : Nat} (h : 0 < sides) : tickV sc c sides = (tickN sc c sides : Int) := by
  have := (tickV_range (sc := sc) (c := c) (sides := sides) (by omega)).1
  unfold tickN; omega
theorem tickN_lt {sc : List Int} {sides : Nat} (h : 0 < sides) : tickN sc c sides < sides := by
  have := (tickV_range (sc := sc) (c := c) (sides := sides) (by omega))
  unfold tickN; omega
theorem tickN_call (P : Pg g mg mb) {sides : Nat} (hs : 0 < sides) (h0 : 0 ≤ c) (h1 : c ≤ 10000) (hsc : g.sc.length ≤ 100) : Calls g mg 1 "_law_tick" [.clk, .int sides] c (.int (tickN g.sc c sides)) (c + 1) := by
  rw [← tickN_eq hs]; exact tick_call P (by omega) h0 h1 hsc

/-! _law_clauses -/
/-- the clauses after j turns: whom, which way -/
noncomputable def clsGo (sc : List Int) (here count : Nat) (c0 : Int) : Nat → List (Nat × Nat)
  | 0 => []
  | j + 1 => if tickN sc (c0 + 2 * j) count = here ∨ tickN sc (c0 + 2 * j) count ∈ (clsGo sc here count c0 j).map (·.1) then clsGo sc here count c0 j
    else clsGo sc here count c0 j ++ [(tickN sc (c0 + 2 * j) count, tickN sc (c0 + 2 * j + 1) 5)]
noncomputable def clOf (here : Nat) (e : Nat × Nat) : List CL := .wth ["text_io", nm e.1] ::
  (if e.2 = 0 ∨ e.2 = 4 then [.prag "elaborate_all" [some (nm e.1)]] else if e.2 = 1 then [.prag "elaborate" [none, some (nm e.1)]] else if e.2 = 3 then [.prag "elaborate_all" [some "text_io", some (nm here)]] else [])
noncomputable def ctxOf (here : Nat) (cls : List (Nat × Nat)) : List CL := cls.flatMap (clOf here)
noncomputable def toldL (cls : List (Nat × Nat)) : List Nat := cls.map (·.1)
noncomputable def firstsL (cls : List (Nat × Nat)) : List Nat := (cls.filter fun e => decide (e.2 = 1)).map (·.1)
noncomputable def wholesL (cls : List (Nat × Nat)) : List Nat := (cls.filter fun e => decide (e.2 = 0 ∨ e.2 = 4)).map (·.1)
theorem clsGo_len (sc : List Int) (here count : Nat) (c0 : Int) : ∀ j, (clsGo sc here count c0 j).length ≤ j
  | 0 => Nat.le_refl _
  | j + 1 => by
    have := clsGo_len sc here count c0 j
    rw [clsGo]; split
    · omega
    · simp; omega
theorem ctxOf_len (here : Nat) : ∀ cls : List (Nat × Nat), (ctxOf here cls).length ≤ 2 * cls.length
  | [] => Nat.le_refl _
  | e :: cls => by
    have h1 := ctxOf_len here cls
    have h2 : (clOf here e).length ≤ 2 := by unfold clOf; split <;> (try split) <;> (try split) <;> simp
    show (clOf here e ++ ctxOf here cls).length ≤ _
    rw [List.length_append, List.length_cons]; omega
theorem binds_clauses : Binds 23 ["clock", "here", "count"] := binds3 fun a b c fd h1 h2 h3 => by
  obtain ⟨n, q, ps, bd, sc, gl, cl, df, kd, doc, pm, an, cd, ct, bl⟩ := fd
  cases h1; cases h2; cases h3
  rfl
theorem frame_clauses : Frame 23 ["clock", "here", "count"] := ⟨binds_clauses, by decide, rfl, rfl, rfl, fun L x hx => by simp at hx; rcases hx with rfl | rfl | rfl <;> first | exact .inl rfl | exact .inr ⟨rfl, rfl⟩⟩
noncomputable def clausesD (here : Nat) (cls : List (Nat × Nat)) : D := .tup [.list ((ctxOf here cls).map clD), natsD (toldL cls), natsD (firstsL cls), natsD (wholesL cls)]

theorem int_eq_nat (x y : Nat) : ((x : Int) == (y : Int)) = decide (x = y) := by
  by_cases h : x = y
  · subst h; simp
  · rw [beq_eq_false_iff_ne.mpr fun e => h (by omega)]; simp [h]

noncomputable def clsRho (here count : Nat) (cls : List (Nat × Nat)) : Rho := [ow "context" (.list ((ctxOf here cls).map clD)), ow "told" (natsD (toldL cls)), ow "firsts" (natsD (firstsL cls)), ow "wholes" (natsD (wholesL cls)), fr "clock" .clk, fr "here" (.int here), fr "count" (.int count)]
theorem or2 {p q : Prop} [Decidable p] [Decidable q] : (decide p || (decide q || false)) = decide (p ∨ q) := by simp [Bool.decide_or]
set_option maxHeartbeats 2000000 in
theorem body_clauses (P : Pg g mg mb) {here count : Nat} (hh : here < count) (hc : count ≤ 4) (h0 : 0 ≤ c) (h1 : c ≤ 9000) (hsc : g.sc.length ≤ 100) : BodyAt g 1 23 ["clock", "here", "count"] [.clk, .int here, .int count] c
    (clausesD here (clsGo g.sc here count (c + 1) (tickN g.sc c 3))) (c + 1 + 2 * (tickN g.sc c 3)) := fun L a q code => by
  have hsl : sizeLine = 16777216 := rfl
  have hn3 := tickN_lt (sc := g.sc) (c := c) (sides := 3) (by decide)
  refine WS.mid (clsRho here count []) c (WS1.assignNils (xs := ["context", "told", "firsts", "wholes"]) (.cons ⟨_, rfl⟩ (.cons ⟨_, rfl⟩ (.cons ⟨_, rfl⟩ (.cons ⟨_, rfl⟩ .nil)))) (fun x hx => ?_) (fun e he => ?_) rfl (by decide) ⟨Sub.of ⟨rfl, rfl, rfl, rfl, rfl, rfl, rfl, trivial⟩, rfl⟩) ?_
  · simp at hx; rcases hx with rfl | rfl | rfl | rfl <;> exact .inl rfl
  · simp at he; rcases he with rfl | rfl | rfl | rfl <;> exact ⟨_, rfl⟩
  refine WS.mid (clsRho here count (clsGo g.sc here count (c + 1) (tickN g.sc c 3))) (c + 1 + 2 * (tickN g.sc c 3)) (WS1.forIn (WE.range (n := tickN g.sc c 3) P.G rfl (WE.callC P.G (tickN_call P (sides := 3) (by decide) h0 (by omega) hsc) (.cons (WE.name rfl) (.cons WE.int .nil)) (by decide)) (by omega)) (.rng _)
    (fun i ρ c1 => ρ = clsRho here count (clsGo g.sc here count (c + 1) i) ∧ c1 = c + 1 + 2 * i) ⟨_, fun _ _ h => h, rfl, by omega⟩ ?_ ?_) ?_
  · rintro i d1 ρ1 c1 hd ⟨rfl, rfl⟩
    have hi3 : i < 3 := by
      have := (List.getElem?_eq_some_iff.mp hd).1
      simp at this; omega
    refine ⟨_, WA.name (.inl rfl), ?_⟩
    have hlen := clsGo_len g.sc here count (c + 1) i
    have hcl := ctxOf_len here (clsGo g.sc here count (c + 1) i)
    have e : clsGo g.sc here count (c + 1) (i + 1) = if tickN g.sc (c + 1 + 2 * i) count = here ∨ tickN g.sc (c + 1 + 2 * i) count ∈ (clsGo g.sc here count (c + 1) i).map (·.1) then clsGo g.sc here count (c + 1) i
      else clsGo g.sc here count (c + 1) i ++ [(tickN g.sc (c + 1 + 2 * i) count, tickN g.sc (c + 1 + 2 * i + 1) 5)] := by rw [clsGo]
    rw [e]
    have ho := tickN_lt (sc := g.sc) (c := c + 1 + 2 * i) (sides := count) (by omega)
    have hw := tickN_lt (sc := g.sc) (c := c + 1 + 2 * i + 1) (sides := 5) (by decide)
    refine WS.cons (WS1.assign (.inl rfl) (WE.callC P.G (tickN_call P (sides := count) (c := c + 1 + 2 * i) (by omega) (by omega) (by omega) hsc) (.cons (WE.name rfl) (.cons (WE.name rfl) .nil)) (by decide)) ?_)
    refine WS.cons (WS1.assign (.inl rfl) (WE.callC P.G (tickN_call P (sides := 5) (c := c + 1 + 2 * i + 1) (by decide) (by omega) (by omega) hsc) (.cons (WE.name rfl) (.cons WE.int .nil)) (by decide)) ?_)
    generalize tickN g.sc (c + 1 + 2 * i) count = o at ho
    generalize tickN g.sc (c + 1 + 2 * i + 1) 5 = w at hw
    generalize clsGo g.sc here count (c + 1) i = cls at hlen hcl
    have hcc : c + 1 + 2 * (i : Int) + 1 + 1 = c + 1 + 2 * ((i + 1 : Nat) : Int) := by omega
    rw [hcc]
    have f1 : (firstsL cls).length ≤ cls.length := by unfold firstsL; rw [List.length_map]; exact List.length_filter_le ..
    have f2 : (wholesL cls).length ≤ cls.length := by unfold wholesL; rw [List.length_map]; exact List.length_filter_le ..
    have f3 : (toldL cls).length = cls.length := by simp [toldL]
    refine WS.cons (WS1.ite (WTs.toT (WTs.or_cons (WCmp.toT (WCmp.vv (WE.name rfl) (WE.name rfl) CmpV.int_eq)) fun _ => WTs.or_cons (WCmp.toT (WCmp.vc (WE.name rfl) (WC.name rfl) (CmpC.in_list (kinds_nats _ _)))) fun _ => WTs.or_nil)) (fun hb => ?_) fun hb => ?_)
    · rw [natsD_any, int_eq_nat] at hb
      rw [or2] at hb
      have hb : o = here ∨ o ∈ cls.map (·.1) := of_decide_eq_true hb
      rw [if_pos hb]
      refine WS.cons (WS1.cont ⟨_, ?_, rfl, rfl⟩)
      exact Sub.of ⟨rfl, rfl, rfl, rfl, rfl, rfl, rfl, trivial⟩
    · rw [natsD_any, int_eq_nat] at hb
      rw [or2] at hb
      have hb : ¬ (o = here ∨ o ∈ cls.map (·.1)) := of_decide_eq_false hb
      rw [if_neg hb]
      refine .nil ?_
      refine WS.mid (fr "way" (.int w) :: fr "other" (.int o) :: ow "context" (.list ((ctxOf here cls).map clD)) :: ow "told" (natsD (toldL cls ++ [o])) :: [ow "firsts" (natsD (firstsL cls)), ow "wholes" (natsD (wholesL cls)), fr "clock" .clk, fr "here" (.int here), fr "count" (.int count)]) _ (WS1.append rfl (WE.name rfl) ⟨?_, rfl⟩ (by rw [intsOf_len]; omega)) ?_
      · rw [natsD_snoc]
        exact Sub.of ⟨rfl, rfl, rfl, rfl, rfl, rfl, rfl, rfl, rfl, trivial⟩
      have hwc := word_call (c := c + 1 + 2 * ((i + 1 : Nat) : Int)) P (i := o) (by omega)
      have hwh := word_call (c := c + 1 + 2 * ((i + 1 : Nat) : Int)) P (i := here) (by omega)
      have hctx : ctxOf here (cls ++ [(o, w)]) = ctxOf here cls ++ clOf here (o, w) := by simp [ctxOf]
      have hR : clsRho here count (cls ++ [(o, w)]) = [ow "context" (.list ((ctxOf here cls ++ clOf here (o, w)).map clD)), ow "told" (natsD (toldL (cls ++ [(o, w)]))), ow "firsts" (natsD (firstsL (cls ++ [(o, w)]))), ow "wholes" (natsD (wholesL (cls ++ [(o, w)]))), fr "clock" .clk, fr "here" (.int here), fr "count" (.int count)] := by
        rw [← hctx]; rfl
      rw [hR]
      unfold clOf
      simp only
      generalize nm o = no at hwc
      generalize nm here = nh at hwh
      generalize hC : ctxOf here cls = C at hcl
      have t2 : ∀ x, toldL (cls ++ [(o, x)]) = toldL cls ++ [o] := fun x => by simp [toldL]
      rw [t2]
      refine WS.cons (WS1.assign (d := nameD no) (.inl rfl) (WE.tup (.cons WE.str (.cons (WE.callC P.G hwc (.cons (WE.name rfl) .nil) (by decide)) .nil))) ?_)
      refine WS.mid (fr "node" (nameD no) :: fr "way" (.int w) :: fr "other" (.int o) :: ow "context" (.list ((C ++ [CL.wth ["text_io", no]]).map clD)) :: ow "told" (natsD (toldL cls ++ [o])) :: [ow "firsts" (natsD (firstsL cls)), ow "wholes" (natsD (wholesL cls)), fr "clock" .clk, fr "here" (.int here), fr "count" (.int count)]) _
        (WS1.append (d := clD (CL.wth ["text_io", no])) rfl (WE.tup (.cons WE.str (.cons WE.int (.cons (WO.toE (WO.list (.cons (WE.tup (.cons WE.str (.cons WE.str .nil))) (.cons (WE.name rfl) .nil)))) .nil)))) ⟨?_, rfl⟩ (by rw [List.length_map]; omega)) ?_
      · rw [List.map_append]
        exact Sub.of ⟨rfl, rfl, rfl, rfl, rfl, rfl, rfl, rfl, rfl, rfl, trivial⟩
      have hC2 : (C ++ [CL.wth ["text_io", no]]).length ≤ 2 * cls.length + 1 := by simp; omega
      generalize hCC : C ++ [CL.wth ["text_io", no]] = C2 at hC2
      have hcons : ∀ r, C ++ CL.wth ["text_io", no] :: r = C2 ++ r := fun r => by rw [← hCC]; simp
      rw [hcons]
      refine WS.cons (WS1.ite (WTs.toT (WTs.or_cons (WCmp.toT (WCmp.vv (WE.name rfl) WE.int CmpV.int_eq)) fun _ => WTs.or_cons (WCmp.toT (WCmp.vv (WE.name rfl) WE.int CmpV.int_eq)) fun _ => WTs.or_nil)) (fun hb => ?_) fun hb => ?_)
      · have hb : w = 0 ∨ w = 4 := by
          have h1 := int_eq_nat w 0
          have h2 := int_eq_nat w 4
          change (((w : Int) == ((0 : Nat) : Int)) || (((w : Int) == ((4 : Nat) : Int)) || false)) = true at hb
          rw [h1, h2, or2] at hb
          exact of_decide_eq_true hb
        rw [if_pos hb]
        have e1 : firstsL (cls ++ [(o, w)]) = firstsL cls := by
          unfold firstsL; rw [List.filter_append]; rcases hb with rfl | rfl <;> simp
        have e2 : wholesL (cls ++ [(o, w)]) = wholesL cls ++ [o] := by
          unfold wholesL; rw [List.filter_append]; rcases hb with rfl | rfl <;> simp
        rw [e1, e2]
        refine WS.cons (WS1.append rfl (WE.name rfl) ?_ (by rw [intsOf_len]; omega))
        refine WS.cons (WS1.append (d := clD (.prag "elaborate_all" [some no])) rfl (WE.tup (.cons WE.str (.cons WE.int (.cons WE.str (.cons (WO.toE (WO.list (.cons (WE.tup (.cons WE.none (.cons (WE.name rfl) .nil))) .nil))) .nil))))) (.nil (.nil ⟨_, ?_, rfl, rfl⟩)) (by rw [List.length_map]; omega))
        rw [← natsD_snoc, List.map_append]
        exact Sub.of ⟨rfl, rfl, rfl, rfl, rfl, rfl, rfl, trivial⟩
      · have hb : ¬ (w = 0 ∨ w = 4) := by
          have h1 := int_eq_nat w 0
          have h2 := int_eq_nat w 4
          change (((w : Int) == ((0 : Nat) : Int)) || (((w : Int) == ((4 : Nat) : Int)) || false)) = false at hb
          rw [h1, h2, or2] at hb
          exact of_decide_eq_false hb
        rw [if_neg hb]
        have e2 : wholesL (cls ++ [(o, w)]) = wholesL cls := by
          unfold wholesL; rw [List.filter_append]; simp [hb]
        rw [e2]
        refine WS.cons (WS1.ite (WCmp.toT (WCmp.vv (WE.name rfl) WE.int CmpV.int_eq)) (fun hq => ?_) fun hq => ?_)
        · have hq : w = 1 := by
            have h1 := int_eq_nat w 1
            change ((w : Int) == ((1 : Nat) : Int)) = true at hq
            rw [h1] at hq; exact of_decide_eq_true hq
          rw [if_pos hq]
          have e1 : firstsL (cls ++ [(o, w)]) = firstsL cls ++ [o] := by
            unfold firstsL; rw [List.filter_append, hq]; simp
          rw [e1]
          refine WS.cons (WS1.append rfl (WE.name rfl) ?_ (by rw [intsOf_len]; omega))
          refine WS.cons (WS1.append (d := clD (.prag "elaborate" [none, some no])) rfl (WE.tup (.cons WE.str (.cons WE.int (.cons WE.str (.cons (WO.toE (WO.list (.cons (WE.tup (.cons WE.none (.cons (WE.tup (.cons WE.str (.cons WE.int .nil))) .nil))) (.cons (WE.tup (.cons WE.none (.cons (WE.name rfl) .nil))) .nil)))) .nil))))) (.nil (.nil (.nil ⟨_, ?_, rfl, rfl⟩))) (by rw [List.length_map]; omega))
          rw [← natsD_snoc, List.map_append]
          exact Sub.of ⟨rfl, rfl, rfl, rfl, rfl, rfl, rfl, trivial⟩
        · have hq : ¬ w = 1 := by
            have h1 := int_eq_nat w 1
            change ((w : Int) == ((1 : Nat) : Int)) = false at hq
            rw [h1] at hq; exact of_decide_eq_false hq
          rw [if_neg hq]
          have e1 : firstsL (cls ++ [(o, w)]) = firstsL cls := by
            unfold firstsL; rw [List.filter_append]; simp [hq]
          rw [e1]
          refine WS.cons (WS1.ite (WCmp.toT (WCmp.vv (WE.name rfl) WE.int CmpV.int_eq)) (fun hq => ?_) fun hq => ?_)
          · have hq : w = 3 := by
              have h1 := int_eq_nat w 3
              change ((w : Int) == ((3 : Nat) : Int)) = true at hq
              rw [h1] at hq; exact of_decide_eq_true hq
            rw [if_pos hq]
            refine WS.cons (WS1.assignO (d := .list ([some ("text_io" : Str), some nh].map argD)) (.inl rfl) (WO.list (.cons (WE.tup (.cons WE.none (.cons (WE.tup (.cons WE.str (.cons WE.str .nil))) .nil))) (.cons (WE.tup (.cons WE.none (.cons (WE.tup (.cons WE.str (.cons (WE.callC P.G hwh (.cons (WE.name rfl) .nil) (by decide)) .nil))) .nil))) .nil))) ?_)
            refine WS.freeze (x := "parts") rfl ?_
            refine WS.cons (WS1.append (d := clD (.prag "elaborate_all" [some "text_io", some nh])) rfl (WE.tup (.cons WE.str (.cons WE.int (.cons WE.str (.cons (WE.name rfl) .nil))))) (.nil (.nil (.nil (.nil ⟨_, ?_, rfl, rfl⟩)))) (by rw [List.length_map]; omega))
            rw [List.map_append]
            exact Sub.of ⟨rfl, rfl, rfl, rfl, rfl, rfl, rfl, trivial⟩
          · have hq : ¬ w = 3 := by
              have h1 := int_eq_nat w 3
              change ((w : Int) == ((3 : Nat) : Int)) = false at hq
              rw [h1] at hq; exact of_decide_eq_false hq
            rw [if_neg hq, List.append_nil]
            refine .nil (.nil (.nil (.nil ⟨_, ?_, rfl, rfl⟩)))
            exact Sub.of ⟨rfl, rfl, rfl, rfl, rfl, rfl, rfl, trivial⟩
  · rintro ρ1 c1 ⟨rfl, rfl⟩
    rw [List.length_map, List.length_range]
    exact ⟨fun _ _ h => h, rfl⟩
  · refine WS.freeze (x := "context") rfl (WS.freeze (x := "told") rfl (WS.freeze (x := "firsts") rfl (WS.freeze (x := "wholes") rfl ?_)))
    exact WS.cons (WS1.ret (WE.tup (.cons (WE.name rfl) (.cons (WE.name rfl) (.cons (WE.name rfl) (.cons (WE.name rfl) .nil))))) ⟨rfl, .inl rfl⟩)
end Mine
end

section
open PySem PySem.W PyProof.Rows
set_option linter.unusedVariables false
set_option linter.unusedSimpArgs false
set_option maxRecDepth 100000
namespace Mine
variable {g : Cx} {k : Nat} {env : Env} {B Z Z' Z'' : Zm} {ad : Str → Addr} {ρ : Rho} {c c' c'' c1 c2 c3 : Int} {h h' h'' : Heap} {e l r : Expr} {d d1 d2 : D} {p p1 p2 p3 p4 p5 : Pos} {mg mb : Str → Option Value}
variable {K K' : Fl → Rho → Int → Prop} {ss : List Stmt} {st : Stmt}

/-! _law_text -/
noncomputable abbrev Row := Nat × List (Nat × Nat)
noncomputable def kindS (s : Nat) : Str := if s = 1 then "packbody" else "package"
noncomputable def restD (s : Nat) : List D := if s = 1 then [.list [], .list [], .list []] else [.list [], .list []]
noncomputable def rowUnit (here s : Nat) (cls : List (Nat × Nat)) : D := unitD (ctxOf here cls) (kindS s) (nm here) (.int 2) (restD s)
noncomputable def rowD' (here s : Nat) (cls : List (Nat × Nat)) : D := .tup [.int (2 * here + s : Nat), rowUnit here s cls, natsD (toldL cls), natsD (firstsL cls), natsD (wholesL cls)]
noncomputable def rowD (r : Row) : D := rowD' (r.1 / 2) (r.1 % 2) r.2
noncomputable def putRow (sc : List Int) (here s count : Nat) (x : Int × List Row) : Int × List Row :=
  (x.1 + 1 + 2 * tickN sc x.1 3 + 1, x.2.take (tickN sc (x.1 + 1 + 2 * tickN sc x.1 3) (x.2.length + 1)) ++ [(2 * here + s, clsGo sc here count (x.1 + 1) (tickN sc x.1 3))] ++ x.2.drop (tickN sc (x.1 + 1 + 2 * tickN sc x.1 3) (x.2.length + 1)))
noncomputable def turn (sc : List Int) (here s count : Nat) (x : Int × List Row) : Int × List Row :=
  if s = 1 then (if tickN sc x.1 3 = 2 then (x.1 + 1, x.2) else putRow sc here s count (x.1 + 1, x.2)) else putRow sc here s count x
noncomputable def turns (sc : List Int) (here count : Nat) : Nat → Int × List Row → Int × List Row
  | 0, x => x
  | n + 1, x => turn sc here n count (turns sc here count n x)
noncomputable def textGo (sc : List Int) (count : Nat) : Nat → Int × List Row → Int × List Row
  | 0, x => x
  | h + 1, x => turns sc h count 2 (textGo sc count h x)

theorem putRow_b {sc : List Int} {here s count : Nat} {x : Int × List Row} : x.1 + 2 ≤ (putRow sc here s count x).1 ∧ (putRow sc here s count x).1 ≤ x.1 + 6 ∧ (putRow sc here s count x).2.length = x.2.length + 1 := by
  have h3 := tickN_lt (sc := sc) (c := x.1) (sides := 3) (by decide)
  have hp := tickN_lt (sc := sc) (c := x.1 + 1 + 2 * tickN sc x.1 3) (sides := x.2.length + 1) (by omega)
  unfold putRow
  refine ⟨?_, ?_, ?_⟩
  · show x.1 + 2 ≤ x.1 + 1 + 2 * (tickN sc x.1 3 : Int) + 1; omega
  · show x.1 + 1 + 2 * (tickN sc x.1 3 : Int) + 1 ≤ x.1 + 6; omega
  · simp only [List.length_append, List.length_take, List.length_drop, List.length_singleton]; omega
theorem turn_b {sc : List Int} {here s count : Nat} {x : Int × List Row} : x.1 ≤ (turn sc here s count x).1 ∧ (turn sc here s count x).1 ≤ x.1 + 7 ∧ (turn sc here s count x).2.length ≤ x.2.length + 1 := by
  unfold turn
  split
  · split
    · exact ⟨by show x.1 ≤ x.1 + 1; omega, by show x.1 + 1 ≤ x.1 + 7; omega, by simp⟩
    · have := putRow_b (sc := sc) (here := here) (s := s) (count := count) (x := (x.1 + 1, x.2))
      simp only at this
      omega
  · have := putRow_b (sc := sc) (here := here) (s := s) (count := count) (x := x)
    omega
theorem turns_b {sc : List Int} {here count : Nat} {x : Int × List Row} : ∀ n : Nat, x.1 ≤ (turns sc here count n x).1 ∧ (turns sc here count n x).1 ≤ x.1 + 7 * n ∧ (turns sc here count n x).2.length ≤ x.2.length + n
  | 0 => by simp [turns]
  | n + 1 => by
    have h1 := turns_b (sc := sc) (here := here) (count := count) (x := x) n
    have h2 := turn_b (sc := sc) (here := here) (s := n) (count := count) (x := turns sc here count n x)
    rw [turns]; omega
theorem textGo_b {sc : List Int} {count : Nat} {x : Int × List Row} : ∀ n : Nat, x.1 ≤ (textGo sc count n x).1 ∧ (textGo sc count n x).1 ≤ x.1 + 14 * n ∧ (textGo sc count n x).2.length ≤ x.2.length + 2 * n
  | 0 => by simp [textGo]
  | n + 1 => by
    have h1 := textGo_b (sc := sc) (count := count) (x := x) n
    have h2 := turns_b (sc := sc) (here := n) (count := count) (x := textGo sc count n x) 2
    rw [textGo]; omega

theorem clauses_call (P : Pg g mg mb) {here count : Nat} (hh : here < count) (hc : count ≤ 4) (h0 : 0 ≤ c) (h1 : c ≤ 9000) (hsc : g.sc.length ≤ 100) :
    Calls g mg 2 "_law_clauses" [.clk, .int here, .int count] c (clausesD here (clsGo g.sc here count (c + 1) (tickN g.sc c 3))) (c + 1 + 2 * (tickN g.sc c 3)) :=
  P.clauses.call (k := 1) P.G frame_clauses rfl (body_clauses P hh hc h0 h1 hsc)

theorem binds_text : Binds 24 ["clock", "count"] := binds2 fun a b fd h1 h2 h3 => by
  obtain ⟨n, q, ps, bd, sc, gl, cl, df, kd, doc, pm, an, cd, ct, bl⟩ := fd
  cases h1; cases h2; cases h3
  rfl
theorem frame_text : Frame 24 ["clock", "count"] := ⟨binds_text, by decide, rfl, rfl, rfl, fun L x hx => by simp at hx; rcases hx with rfl | rfl <;> first | exact .inl rfl | exact .inr ⟨rfl, rfl⟩⟩
noncomputable def textRho (count : Nat) (rows : List Row) : Rho := [ow "rows" (.list (rows.map rowD)), fr "clock" .clk, fr "count" (.int count)]
theorem rowD_put {here s : Nat} (hs : s = 0 ∨ s = 1) (cls : List (Nat × Nat)) : rowD (2 * here + s, cls) = rowD' here s cls := by
  unfold rowD
  have h1 : (2 * here + s) / 2 = here := by omega
  have h2 : (2 * here + s) % 2 = s := by omega
  rw [h1, h2]

theorem wts_and1 {b : Bool} (h1 : WT g k env ρ c e b c') : WTs g k env ρ c .And [e] (b && true) c' := .mk fun A E B Z ad s ok sim =>
  wpAny_allTrue_And_cons (wpAny_mono (h1.go A E B Z ad s ok sim) (fun r s1 ⟨hr, Z1, x1⟩ => by
    subst hr
    cases r with
    | false => exact ⟨rfl, Z1, x1⟩
    | true => exact wpAny_allTrue_And_nil ⟨rfl, Z1, x1⟩) fun _ _ e => e)
set_option maxHeartbeats 1000000 in
theorem body_text (P : Pg g mg mb) {count : Nat} (hc0 : 0 < count) (hc : count ≤ 4) (h0 : 0 ≤ c) (h1 : c ≤ 100) (hsc : g.sc.length ≤ 100) : BodyAt g 2 24 ["clock", "count"] [.clk, .int count] c
    (.list ((textGo g.sc count count (c, [])).2.map rowD)) (textGo g.sc count count (c, [])).1 := fun L a q code => by
  have hsl : sizeLine = 16777216 := rfl
  refine WS.mid (textRho count []) c (WS1.assignO (.inl rfl) (WO.list .nil) ⟨Sub.of ⟨rfl, rfl, rfl, trivial⟩, rfl⟩) ?_
  refine WS.mid (textRho count (textGo g.sc count count (c, [])).2) (textGo g.sc count count (c, [])).1 (WS1.forIn (WE.range (n := count) P.G rfl (WE.name rfl) (by omega)) (.rng _)
    (fun i ρ c1 => ρ = textRho count (textGo g.sc count i (c, [])).2 ∧ c1 = (textGo g.sc count i (c, [])).1) ⟨_, fun _ _ h => h, rfl, rfl⟩ ?_ ?_) ?_
  · rintro here d1 ρ1 c1 hd ⟨rfl, rfl⟩
    rw [List.getElem?_map, Option.map_eq_some_iff] at hd
    obtain ⟨j, hj, rfl⟩ := hd
    have hh : here < count := by
      have := (List.getElem?_eq_some_iff.mp hj).1; simpa using this
    have : j = here := by simpa [hh] using hj.symm
    subst this
    have hb := textGo_b (sc := g.sc) (count := count) (x := (c, [])) j
    simp only [List.length_nil] at hb
    rw [textGo]
    generalize textGo g.sc count j (c, []) = x0 at hb
    refine ⟨_, WA.name (.inl rfl), ?_⟩
    refine WS.cons (WS1.forIn (d := .tup [.int 0, .int 1]) (c1 := x0.1) (WE.tup (.cons WE.int (.cons WE.int .nil))) (.tup _) (fun i ρ c1 => ρ = fr "here" (.int j) :: textRho count (turns g.sc j count i x0).2 ∧ c1 = (turns g.sc j count i x0).1) ⟨_, fun _ _ h => h, rfl, rfl⟩ ?_ ?_)
    · rintro s d1 ρ1 c1 hd ⟨rfl, rfl⟩
      have hs : (s = 0 ∨ s = 1) ∧ d1 = .int s := by
        match s with
        | 0 => simp at hd; exact ⟨.inl rfl, hd.symm⟩
        | 1 => simp at hd; exact ⟨.inr rfl, hd.symm⟩
        | s + 2 => simp at hd
      obtain ⟨hs, rfl⟩ := hs
      have hb2 := turns_b (sc := g.sc) (here := j) (count := count) (x := x0) s
      rw [turns]
      generalize turns g.sc j count s x0 = x at hb2
      obtain ⟨cc, rows⟩ := x
      simp only at hb2
      have hcc0 : 0 ≤ cc := by omega
      have hcc1 : cc ≤ 1000 := by omega
      have hrl : rows.length ≤ 20 := by omega
      refine ⟨_, WA.name (.inl rfl), ?_⟩
      -- from the clauses on
      have go : ∀ (cc : Int), 0 ≤ cc → cc ≤ 2000 → WS g 2 (fenv (fnAt 24).2.2 L a q code) (fr "sort" (.int s) :: fr "here" (.int j) :: textRho count rows) cc (((fnAt 24).2.1.tail.head?.map fun st => match st with | .For _ _ [.For _ _ (_ :: b) _ _] _ _ => b | _ => []).getD []) (fun fl ρ3 c3 => match fl with
          | .next | .cont => ∃ ρ4, Sub ρ4 ρ3 ∧ ρ4 = fr "here" (.int j) :: textRho count (putRow g.sc j s count (cc, rows)).2 ∧ c3 = (putRow g.sc j s count (cc, rows)).1
          | .brk => False
          | .ret d => False) := fun cc h0 h1 => by
        have hcl := clauses_call (c := cc) P hh hc h0 (by omega) hsc
        have hn3 := tickN_lt (sc := g.sc) (c := cc) (sides := 3) (by decide)
        generalize hn : tickN g.sc cc 3 = n at hcl hn3
        generalize hcls : clsGo g.sc j count (cc + 1) n = cls at hcl
        have hw := word_call (c := cc + 1 + 2 * n) P (i := j) (by omega)
        have htk := tickN_call (c := cc + 1 + 2 * n) P (sides := rows.length + 1) (by omega) (by omega) (by omega) hsc
        rw [show ((rows.length + 1 : Nat) : Int) = (rows.length : Int) + 1 by omega] at htk
        have htl := tickN_lt (sc := g.sc) (c := cc + 1 + 2 * n) (sides := rows.length + 1) (by omega)
        have hput : putRow g.sc j s count (cc, rows) = (cc + 1 + 2 * n + 1, rows.take (tickN g.sc (cc + 1 + 2 * n) (rows.length + 1)) ++ [(2 * j + s, cls)] ++ rows.drop (tickN g.sc (cc + 1 + 2 * n) (rows.length + 1))) := by
          unfold putRow; simp only [hn, hcls]
        rw [hput]
        generalize tickN g.sc (cc + 1 + 2 * n) (rows.length + 1) = pos at htk htl
        refine WS.cons (WS1.assignTup (ds := [.list ((ctxOf j cls).map clD), natsD (toldL cls), natsD (firstsL cls), natsD (wholesL cls)]) (.cons (.inl rfl) (.cons (.inl rfl) (.cons (.inl rfl) (.cons (.inl rfl) .nil)))) (WE.callC P.G hcl (.cons (WE.name rfl) (.cons (WE.name rfl) (.cons (WE.name rfl) .nil))) (by decide)) ?_)
        refine WS.cons (WS1.assign (d := .tup (.str "package" :: .int 2 :: .str (nm j) :: [.list [], .list []])) (.inl rfl) (WE.tup (.cons WE.str (.cons WE.int (.cons (WE.callC P.G hw (.cons (WE.name rfl) .nil) (by decide)) (.cons (WO.toE (WO.list .nil)) (.cons (WO.toE (WO.list .nil)) .nil)))))) ?_)
        have hitem : D.tup (.str (kindS s) :: .int 2 :: .str (nm j) :: restD s) = (if s = 1 then .tup (.str "packbody" :: .int 2 :: .str (nm j) :: [.list [], .list [], .list []]) else .tup (.str "package" :: .int 2 :: .str (nm j) :: [.list [], .list []])) := by
          rcases hs with rfl | rfl <;> rfl
        have hru : rowUnit j s cls = .tup [.str "unit", .int 1, .list ((ctxOf j cls).map clD), .tup (.str (kindS s) :: .int 2 :: .str (nm j) :: restD s)] := rfl
        have hrd := rowD_put (here := j) hs cls
        generalize hits : D.tup (.str (kindS s) :: .int 2 :: .str (nm j) :: restD s) = itemD at hitem hru
        generalize nm j = nmj at hw hitem
        let R2 : Rho := [fr "item" itemD, fr "wholes" (natsD (wholesL cls)), fr "firsts" (natsD (firstsL cls)), fr "told" (natsD (toldL cls)), fr "context" (.list ((ctxOf j cls).map clD)), fr "sort" (.int s), fr "here" (.int j), ow "rows" (.list (rows.map rowD)), fr "clock" .clk, fr "count" (.int count)]
        refine WS.mid R2 (cc + 1 + 2 * n) (WS1.ite (WCmp.toT (WCmp.vv (WE.name rfl) WE.int CmpV.int_eq)) (fun hb => ?_) fun hb => ?_) ?_
        · have hb : s = 1 := by
            have h1 := int_eq_nat s 1
            change ((s : Int) == ((1 : Nat) : Int)) = true at hb
            rw [h1] at hb; exact of_decide_eq_true hb
          rw [if_pos hb] at hitem
          refine WS.cons (WS1.assign (d := itemD) (.inl rfl) (by rw [hitem]; exact WE.tup (.cons WE.str (.cons WE.int (.cons (WE.callC P.G hw (.cons (WE.name rfl) .nil) (by decide)) (.cons (WO.toE (WO.list .nil)) (.cons (WO.toE (WO.list .nil)) (.cons (WO.toE (WO.list .nil)) .nil))))))) (.nil ⟨?_, rfl⟩))
          exact Sub.of ⟨rfl, rfl, rfl, rfl, rfl, rfl, rfl, rfl, rfl, rfl, trivial⟩
        · have hb : ¬ s = 1 := by
            have h1 := int_eq_nat s 1
            change ((s : Int) == ((1 : Nat) : Int)) = false at hb
            rw [h1] at hb; exact of_decide_eq_false hb
          rw [if_neg hb] at hitem
          refine .nil ⟨?_, rfl⟩
          subst hitem
          exact Sub.of ⟨rfl, rfl, rfl, rfl, rfl, rfl, rfl, rfl, rfl, rfl, trivial⟩
        · have hkey : (2 * (j : Int) + (s : Int)) = ((2 * j + s : Nat) : Int) := by omega
          have hrow : rowD (2 * j + s, cls) = .tup [.int (2 * (j : Int) + (s : Int)), .tup [.str "unit", .int 1, .list ((ctxOf j cls).map clD), itemD], natsD (toldL cls), natsD (firstsL cls), natsD (wholesL cls)] := by
            rw [hrd]; unfold rowD'; rw [hru, hkey]
          refine WS.cons (WS1.assign (d := rowD (2 * j + s, cls)) (.inl rfl) (by
            rw [hrow]
            exact WE.tup (.cons (WE.binop (WE.binop WE.int (WE.name rfl) (OpV.int_mul (IntMulOk.of_left (intBits_le_64 (by omega) (by omega))))) (WE.name rfl) OpV.int_add) (.cons (WE.tup (.cons WE.str (.cons WE.int (.cons (WE.name rfl) (.cons (WE.name rfl) .nil))))) (.cons (WE.name rfl) (.cons (WE.name rfl) (.cons (WE.name rfl) .nil)))))) ?_)
          generalize hrdd : rowD (2 * j + s, cls) = rd at hrow
          refine WS.cons (WS1.insert (n := pos) (d := rd) (ds := rows.map rowD) rfl (WE.callC P.G htk (.cons (WE.name rfl) (.cons (WE.binop (WE.len P.G rfl (WC.name rfl) (.inl ⟨_, rfl, List.length_map ..⟩) (by omega)) WE.int OpV.int_add) .nil)) (by decide)) (WE.name rfl) (by rw [List.length_map]; omega) (by rw [List.length_map]; omega) ?_)
          have hmap : (rows.take pos ++ [(2 * j + s, cls)] ++ rows.drop pos).map rowD = (rows.map rowD).take pos ++ [rd] ++ (rows.map rowD).drop pos := by
            rw [List.map_append, List.map_append, List.map_take, List.map_drop, List.map_cons, List.map_nil, hrdd]
          refine .nil ⟨_, ?_, rfl, rfl⟩
          show Sub [fr "here" (.int j), ow "rows" (.list ((rows.take pos ++ [(2 * j + s, cls)] ++ rows.drop pos).map rowD)), fr "clock" .clk, fr "count" (.int count)] _
          rw [hmap]
          exact Sub.of ⟨rfl, rfl, rfl, rfl, trivial⟩
      have two : ∀ x : Nat, (((x : Int) == 2) && true) = decide (x = 2) := fun x => by
        have h1 := int_eq_nat x 2
        change (((x : Int) == ((2 : Nat) : Int)) && true) = _
        rw [h1, Bool.and_true]
      rcases hs with rfl | rfl
      · refine WS.cons (WS1.iteF (WTs.toT (WTs.and_stop (WCmp.toT (WCmp.vv (WE.name rfl) WE.int CmpV.int_eq)) rfl)) rfl (.nil ?_))
        refine WS.mono (go cc hcc0 (by omega)) fun fl ρ c h => ?_
        cases fl with
        | next => exact h
        | cont => exact h
        | brk => exact h.elim
        | ret d => exact h.elim
      · have htk := tickN_call (c := cc) P (sides := 3) (by decide) hcc0 (by omega) hsc
        have hturn : turn g.sc j 1 count (cc, rows) = if tickN g.sc cc 3 = 2 then (cc + 1, rows) else putRow g.sc j 1 count (cc + 1, rows) := rfl
        rw [hturn]
        generalize tickN g.sc cc 3 = t3 at htk
        refine WS.cons (WS1.ite (b := true && (((t3 : Int) == 2) && true)) (c' := cc + 1) (WTs.toT (WTs.and_cons' (WCmp.toT (WCmp.vv (WE.name rfl) WE.int CmpV.int_eq)) (fun _ => wts_and1 (WCmp.toT (WCmp.vv (WE.callC P.G htk (.cons (WE.name rfl) (.cons WE.int .nil)) (by decide)) WE.int CmpV.int_eq))) fun h => by cases h)) (fun hb => ?_) fun hb => ?_)
        · rw [Bool.true_and, two] at hb
          rw [if_pos (of_decide_eq_true hb)]
          refine WS.cons (WS1.cont ⟨_, ?_, rfl, rfl⟩)
          exact Sub.of ⟨rfl, rfl, rfl, rfl, trivial⟩
        · rw [Bool.true_and, two] at hb
          rw [if_neg (of_decide_eq_false hb)]
          refine .nil (WS.mono (go (cc + 1) (by omega) (by omega)) fun fl ρ c h => ?_)
          cases fl with
          | next => exact h
          | cont => exact h
          | brk => exact h.elim
          | ret d => exact h.elim
    · rintro ρ1 c1 ⟨rfl, rfl⟩
      refine .nil ⟨textRho count _, ?_, rfl, rfl⟩
      exact Sub.of ⟨rfl, rfl, rfl, trivial⟩
  · rintro ρ1 c1 ⟨rfl, rfl⟩
    rw [List.length_map, List.length_range]
    exact ⟨fun _ _ h => h, rfl⟩
  · exact WS.freeze (x := "rows") rfl (WS.cons (WS1.ret (WE.name rfl) ⟨rfl, .inl rfl⟩))
end Mine
end

section
open PySem PySem.W PyProof.Rows
set_option linter.unusedVariables false
set_option linter.unusedSimpArgs false
set_option maxRecDepth 100000
namespace Mine
variable {g : Cx} {k : Nat} {env : Env} {B Z Z' Z'' : Zm} {ad : Str → Addr} {ρ : Rho} {c c' c'' c1 c2 c3 : Int} {h h' h'' : Heap} {e l r : Expr} {d d1 d2 : D} {p p1 p2 p3 p4 p5 p6 p7 p8 p9 : Pos} {mg mb : Str → Option Value}
variable {K K' : Fl → Rho → Int → Prop} {ss : List Stmt} {st : Stmt}

/-- a name's own container is left out of sight and turned -/
theorem SimA.drop {x : Str} {ρ' : Rho} (sim : SimA g env B Z ad ρ c h) (hx : ρ.lookup x = some (.o d)) (hs : Heap.SameBut (ad x) h h') (sub : Sub ρ' ρ) (hno : ∀ y lv, ρ'.lookup y = some lv → y ≠ x) : SimA g env B Z ad ρ' c h' := by
  have pr := sim.privO x d hx
  have zi : Z.In h' := fun a o e => (hs.2 a fun e' => by subst e'; rw [pr.1] at e; cases e).trans (sim.zin a o e)
  refine { sim with
    zin := zi
    bin := fun a o e => (hs.2 a fun e' => by subst e'; rw [pr.2.1] at e; cases e).trans (sim.bin a o e)
    ns := let ⟨m, hm⟩ := sim.ns; ⟨m, hm.sameBut hs (Ne.symm pr.2.2.2.1)⟩
    cells := fun n cc hc => let ⟨v, o, ho, hd⟩ := sim.cells n cc hc; ⟨v, o, (hs.2 cc (Ne.symm (pr.2.2.2.2 n cc hc))).trans ho, hd⟩
    vars := fun y lv hy => ?_
    inj := fun y z d1 d2 hy hz e => sim.inj y z d1 d2 (sub _ _ hy) (sub _ _ hz) e
    privO := fun y d1 hy => sim.privO y d1 (sub _ _ hy)
    clk := sim.clk.mono (.refl Z) fun o e => (hs.2 _ (Ne.symm pr.2.2.1)).trans e }
  obtain ⟨v, hl, hr⟩ := sim.vars y lv (sub _ _ hy)
  refine ⟨v, hl.at (fun o e => (hs.2 _ (Ne.symm pr.2.2.2.1)).trans e) (fun n cc o hc e => (hs.2 cc (Ne.symm (pr.2.2.2.2 n cc hc))).trans e), ?_⟩
  cases lv with
  | f d1 => exact hr
  | o d1 => exact ⟨hr.1, Own.frame hr.2 (fun o e => (hs.2 _ fun e' => hno y _ hy (sim.inj y x d1 d (sub _ _ hy) hx e')).trans e) (.refl Z) zi⟩

theorem dict_last {i : Int} {v : Value} {kvs : List (Int × Value)} (hn : valueAt kvs i = none) : valueAt (PySem.stored kvs i v) i = some v := by
  have hf : kvs.any (fun kv => decide (kv.1 = i)) = false := by
    rw [valueAt, Option.map_eq_none_iff, List.find?_eq_none] at hn
    rw [List.any_eq_false]
    intro kv hkv
    have := hn kv hkv
    simpa using this
  unfold PySem.stored
  rw [hf]
  simp only [Bool.false_eq_true, if_false]
  unfold valueAt at hn ⊢
  rw [List.find?_append]
  have : kvs.find? (fun kv => decide (kv.1 = i)) = none := by simpa using hn
  rw [this]; simp

theorem evalLook {x : Str} {v : Value} (fn : env.scope.kind = .function) {s : Shared} (hl : Look env s.heap x v) {A : Around} {E : Value → Shared → Prop} {Q : Value → Shared → Prop} (hq : Q v s)
    (hd : (x == ("__debug__" : Str)) = false) (hc' : (x == ("__classdict__" : Str)) = false) : wpAny g.M A (eval (.Name x p) env) Q E s := by
  refine wpAny_Name ?_ hd
  rcases hl with ⟨hk, m, hn, hm⟩ | ⟨hk, a, ha, hc⟩
  · exact wpAny_loadName_local fn hk hn hm hq
  · rcases hk with hk | hk
    · exact wpAny_loadName_cell fn hk ha hc hq
    · exact wpAny_loadName_free fn hk ha hc hq hc'

/-- x[kx] = value; if t: x[kx].append(e) -/
theorem WS.putAppend {x kx : Str} {es : List (Int × D)} {ds : List D} {i m : Int} {b : Bool} {value t e : Expr} {ρ' : Rho} {pp : Pos}
    (hx : ρ.lookup x = some (.o (.dI es))) (hkx : ρ'.lookup kx = some (.f (.int i))) (hv : WO g k env ρ c value (.list ds) c) (hnew : es.lookup i = none) (hlen : es.length ≤ sizeLine) (hds : ds.length ≤ sizeLine)
    (sub : Sub ρ' ρ) (hno : ∀ y lv, ρ'.lookup y = some lv → y ≠ x) (ht : WT g k env ρ' c t b c) (he : b = true → WE g k env ρ' c e (.int m) c)
    (hk : WS g k env ((x, .o (.dI (es ++ [(i, .list (if b = true then ds ++ [.int m] else ds))]))) :: ρ) c ss K)
    (hs : swapsWith value (some (.Subscript (.Name x p1) (.Name kx p2) p3)) p.line env = pure false := by rfl)
    (hi : interactive env = false := by rfl) (hsw : swapsWith (.Call (.Attribute (.Subscript (.Name x p4) (.Name kx p5) p6) "append" p7) [e] [] p8) Option.none p9.line env = pure false := by rfl)
    (hbase : attributeBase (.Subscript (.Name x p4) (.Name kx p5) p6) "append" env (eval (.Subscript (.Name x p4) (.Name kx p5) p6) env) = eval (.Subscript (.Name x p4) (.Name kx p5) p6) env := by rfl) (hline : (p7.endLine == p8.line) = true := by rfl)
    (htrees : backTo p8 (starEach [e] env) = [(false, eval e env)] := by rfl)
    (hd : (x == ("__debug__" : Str)) = false := by decide) (hcd : (x == ("__classdict__" : Str)) = false := by decide) (hd2 : (kx == ("__debug__" : Str)) = false := by decide) (hcd2 : (kx == ("__classdict__" : Str)) = false := by decide) :
    WS g k env ρ c (.Assign [.Subscript (.Name x p1) (.Name kx p2) p3] value p :: .If t [.Expr (.Call (.Attribute (.Subscript (.Name x p4) (.Name kx p5) p6) "append" p7) [e] [] p8) p9] [] pp :: ss) K := .mk fun A E B Z ad s ok sim => by
  obtain ⟨vx, lookx, rfl, hsm, kvs, dd, rk⟩ := sim.vars x _ hx
  have pr := sim.privO x _ hx
  obtain ⟨ox, hox⟩ : ∃ o, s.heap.get? (ad x) = some o := by obtain ⟨o, _, _, ho, _⟩ := dd; exact ⟨o, ho⟩
  refine wpAny_execs_cons (wpAny_Assign_Subscript (wpAny_mono (hv.go A E B Z ad s ok sim) (fun v s1 ⟨Z1, bq, hvb, x1, hb0, hbz, vs, pl, rl⟩ => ?_) fun _ _ e => e) hs)
  subst hvb
  have sim1 := sim.ext x1
  have hbx : bq ≠ ad x := fun q => by rw [q, hox] at hb0; cases hb0
  have hbκ : bq ≠ g.κ := fun q => by obtain ⟨o, e⟩ := sim.clk.there; rw [← q, hb0] at e; cases e
  have hvalx := (look_kv i rk).2 hnew
  -- the end: what stands when the rest begins
  have fin : ∀ (s5 : Shared) (Z5 : Zm) (vs' : List Value) (ds' : List D), Ext g Z Z5 s { s5 with heap := s5.heap.update (ad x) fun _ => ox } c → Z5 (ad x) = none → Z5 bq = none → s5.heap.DictOf (intKind g.prog g.w) (ad x) (PySem.stored kvs i (.ref bq)) → PList s5.heap bq vs' → RepL g Z5 vs' ds' →
      ds' = (if b = true then ds ++ [.int m] else ds) → wpAny g.M A (execs ss env) (Post g env B Z K s) E s5 := fun s5 Z5 vs' ds' X zx zb dd5 pl5 rl5 hds' => by
    obtain ⟨nb, hob⟩ := id pl5
    have hup : Heap.SameBut (ad x) s5.heap (s5.heap.update (ad x) fun _ => ox) := Heap.SameBut.update ..
    have hobm : (s5.heap.update (ad x) fun _ => ox).get? bq = some { cls := .type "list", data := .seq vs'.toArray nb } := (hup.2 bq hbx).trans hob
    have X2 := X.freeze hobm zb hb0
    have le6 : Z5.Le (Z5.add bq { cls := .type "list", data := .seq vs'.toArray nb }) := Zm.le_add _ zb
    have simE := sim.ext X2
    have zi5 : (Z5.add bq { cls := .type "list", data := .seq vs'.toArray nb }).In s5.heap := fun a o e => by
      have hax : a ≠ ad x := fun q => by
        rw [q, Zm.add_other _ _ (Ne.symm hbx), zx] at e; cases e
      exact (hup.2 a hax).symm.trans (X2.zin a o e)
    have simF := simE.mut (d' := .dI (es ++ [(i, .list (if b = true then ds ++ [.int m] else ds))])) (h' := s5.heap) hx ⟨hup.1.symm, fun a ha => (hup.2 a ha).symm⟩ fun _ => ⟨hsm, _, dd5, stored_kv (RepKV.mono rk X2.le) hnew (by
      rw [← hds']
      exact Own.freeze (d := .list ds') ⟨vs', pl5, rl5⟩ hob zb)⟩
    exact wpAny_mono (hk.go A E B _ ad s5 ok simF) (fun f s6 p => p.step (.ext X2 sim.bin)) fun _ _ e => e
  refine sim1.ownName hx rfl (wpAny_mono ((WE.name (p := p2) (sub _ _ hkx) hd2 hcd2).go A E B Z1 ad s1 ok sim1) (fun vi s2 ⟨Z2, x2, r2⟩ => ?_) fun _ _ e => e) hd hcd
  have x12 := x1.trans x2
  have sim2 := sim1.ext x2
  have pr2 := sim2.privO x _ hx
  have dd2 : s2.heap.DictOf (intKind g.prog g.w) (ad x) kvs := let ⟨o, e, ep, ho, q⟩ := dd; ⟨o, e, ep, x12.keep _ _ pr.2.2.1 ho, q⟩
  have hZ2b : Z2 bq = none := x2.new bq hbz ⟨_, pl.choose_spec⟩
  refine wpAny_setItem_pairs (key_int r2) dd2 (fun h3 dd3 same3 => ?_) (by rw [rk.length]; exact hlen)
  have sim3 : SimA g env B Z2 ad ρ' c h3 := sim2.drop hx same3 sub hno
  have pl3 : PList h3 bq vs := (pl.at fun o e => x2.keep _ o hbκ e).at fun o e => (same3.2 bq hbx).trans e
  refine wpAny_execs_cons (wpAny_If (wpAny_mono (ht.go A E B Z2 ad { s2 with heap := h3, toks := _ } ok sim3) (fun r s4 ⟨hr, Z4, x4⟩ => ?_) fun _ _ e => e))
  subst hr
  have x4' : Ext g Z2 Z4 { s2 with heap := h3 } s4 c := x4.from
  have hZ4b : Z4 bq = none := x4'.new bq hZ2b ⟨_, pl3.choose_spec⟩
  have hZ4x : Z4 (ad x) = none := x4'.new _ pr2.1 (by obtain ⟨o, _, _, ho, _⟩ := dd3; exact ⟨o, ho⟩)
  have dd4 : s4.heap.DictOf (intKind g.prog g.w) (ad x) (PySem.stored kvs i (.ref bq)) := let ⟨o, e, ep, ho, q⟩ := dd3; ⟨o, e, ep, x4'.keep _ _ pr.2.2.1 ho, q⟩
  have pl4 : PList s4.heap bq vs := pl3.at fun o e => x4'.keep _ o hbκ e
  have rl4 : RepL g Z4 vs ds := RepL.mono rl (x2.le.trans x4'.le)
  -- from the begin of all to a heap that keeps s4 but bq and the dict
  have mid : ∀ (s5 : Shared) (Z5 : Zm), Z4.Le Z5 → Z5.In s5.heap → (∀ a, Z4 a = none → (∃ o, s4.heap.get? a = some o) → Z5 a = none) → (∀ a o, a ≠ g.κ → a ≠ bq → s4.heap.get? a = some o → s5.heap.get? a = some o) → Clk g Z5 s5.heap c → Z5 (ad x) = none → s5.os = s4.os → s5.gens = s4.gens → Ext g Z Z5 s { s5 with heap := s5.heap.update (ad x) fun _ => ox } c := fun s5 Z5 le zi nw kp ck zx ho hg => by
    have hup : Heap.SameBut (ad x) s5.heap (s5.heap.update (ad x) fun _ => ox) := Heap.SameBut.update ..
    have th3 : ∀ a, (∃ o, s2.heap.get? a = some o) → ∃ o, h3.get? a = some o := fun a ⟨o, e⟩ => by
      by_cases ha : a = ad x
      · subst ha; obtain ⟨o', _, _, ho, _⟩ := dd3; exact ⟨o', ho⟩
      · exact ⟨o, (same3.2 a ha).trans e⟩
    have th2 : ∀ a, (∃ o, s.heap.get? a = some o) → ∃ o, s2.heap.get? a = some o := fun a ⟨o, e⟩ => by
      by_cases ha : a = g.κ
      · subst ha; exact x12.clk.there
      · exact ⟨o, x12.keep a o ha e⟩
    have th4 : ∀ a, (∃ o, h3.get? a = some o) → ∃ o, s4.heap.get? a = some o := fun a ⟨o, e⟩ => by
      by_cases ha : a = g.κ
      · subst ha; exact x4'.clk.there
      · exact ⟨o, x4'.keep a o ha e⟩
    refine .of ((x12.le.trans x4'.le).trans le) (fun a o e => ?_) (fun a ha ho => nw a (x4'.new a (x12.new a ha ho) (th3 a (th2 a ho))) (th4 a (th3 a (th2 a ho)))) (fun a o ha e => ?_) (ck.mono (.refl _) fun o e => (hup.2 _ (Ne.symm pr.2.2.1)).trans e) (ho.trans (x4'.os.trans x12.os)) (hg.trans (x4'.gs.trans x12.gs))
    · have hax : a ≠ ad x := fun q => by rw [q, zx] at e; cases e
      exact (hup.2 a hax).trans (zi a o e)
    · by_cases hax : a = ad x
      · subst hax
        rw [hox] at e; cases e
        obtain ⟨o5, h5⟩ : ∃ o, s5.heap.get? (ad x) = some o := by
          obtain ⟨o', _, _, ho, _⟩ := dd4
          exact ⟨_, kp _ _ pr.2.2.1 (Ne.symm hbx) ho⟩
        refine Heap.get?_update_self (fun _ => ox) h5 ?_
        obtain ⟨o', e', ep, ho, hc, hdat, _⟩ := dd
        rw [hox] at ho; cases ho
        exact Obj.isFreed_of_dict hdat
      · have hab : a ≠ bq := fun q => by rw [q, hb0] at e; cases e
        exact (hup.2 a hax).trans (kp a o ha hab (x4'.keep a o ha ((same3.2 a hax).trans (x12.keep a o ha e))))
  cases r with
  | false =>
    refine wpAny_execs_nil ?_
    exact fin s4 Z4 vs ds (mid s4 Z4 (.refl _) x4'.zin (fun _ h _ => h) (fun _ _ _ _ e => e) x4'.clk hZ4x rfl rfl) hZ4x hZ4b dd4 pl4 rl4 rfl
  | true =>
    have sim4 := SimA.ext (s := { s2 with heap := h3 }) sim3 x4'
    have look4 : Look env s4.heap x (.ref (ad x)) := lookx.at (fun o e => x4'.keep _ o sim.privL.2.2 ((same3.2 _ (Ne.symm pr.2.2.2.1)).trans (x12.keep _ o sim.privL.2.2 e))) fun n cc o hc e => x4'.keep _ o (sim.privC n cc hc).2.2 ((same3.2 _ (Ne.symm (pr.2.2.2.2 n cc hc))).trans (x12.keep _ o (sim.privC n cc hc).2.2 e))
    refine wpAny_execs_cons (wpAny_Expr (wpAny_Call_method1_late hbase hline htrees (Subscript_ (evalLook sim.fn look4 (wpAny_mono ((WE.name (p := p5) hkx hd2 hcd2).go A E B Z4 ad s4 ok sim4) (fun vi2 s5 ⟨Z5, x5, r5⟩ => ?_) fun _ _ e => e) hd hcd))) hi hsw)
    have dd5 : s5.heap.DictOf (intKind g.prog g.w) (ad x) (PySem.stored kvs i (.ref bq)) := let ⟨o, e, ep, ho, q⟩ := dd4; ⟨o, e, ep, x5.keep _ _ pr.2.2.1 ho, q⟩
    have pl5 : PList s5.heap bq vs := pl4.at fun o e => x5.keep _ o hbκ e
    obtain ⟨ops, ho⟩ := subs_any (.Name kx p5) (.ref (ad x)) vi2
    refine tail_any dd5.typeIs slot_dict_getitem.lookup (wpAny_getItem_of (key_int r5) dd5.mapOf (dict_last hvalx) ?_) ho
    obtain ⟨n5, hn5⟩ := id pl5
    refine ⟨"list", "list.append", PySem.F.plainAttrs_list, PySem.F.slot_list_append, rfl, ⟨_, hn5, rfl⟩, fun a e => by cases e; exact ⟨_, hn5, rfl⟩, ?_⟩
    refine PySem.P.append_list (wpAny_mono ((he rfl).go A E B Z5 ad { s5 with toks := _ } ok (sim4.ext x5.to)) (fun vm s6 ⟨Z6, x6', r6⟩ => ?_) fun _ _ e => e)
    have x6 : Ext g Z5 Z6 s5 s6 c := x6'.from
    have x56 := x5.trans x6
    have pl6 : s6.heap.get? bq = some { cls := .type "list", data := .seq vs.toArray n5 } := x6.keep _ _ hbκ hn5
    have hZ6b : Z6 bq = none := x56.new bq hZ4b ⟨_, pl4.choose_spec⟩
    have hZ6x : Z6 (ad x) = none := x56.new _ hZ4x (by obtain ⟨o, _, _, ho, _⟩ := dd4; exact ⟨o, ho⟩)
    have same7 : Heap.SameBut bq s6.heap (s6.heap.update bq (Obj.mapSeq fun xs => xs.push vm)) := Heap.SameBut.update ..
    refine ⟨vs.toArray, n5, by rw [List.size_toArray, rl.length]; exact hds, pl6, ?_⟩
    refine wpAny_execs_nil ?_
    refine fin _ Z6 (vs ++ [vm]) (ds ++ [.int m]) (mid _ Z6 x56.le (fun a o e => (same7.2 a fun q => by rw [q, hZ6b] at e; cases e).trans (x6.zin a o e)) x56.new (fun a o ha hb e => (same7.2 a hb).trans (x56.keep a o ha e)) (x6.clk.mono (.refl _) fun o e => (same7.2 _ (Ne.symm hbκ)).trans e) hZ6x x56.os x56.gs) hZ6x hZ6b ?_ (PList.upd ⟨n5, pl6⟩ _ (by simp)) ((RepL.mono rl4 x56.le).append (.cons r6 .nil)) rfl
    obtain ⟨o, e, ep, ho, q⟩ := dd5
    exact ⟨o, e, ep, (same7.2 _ (Ne.symm hbx)).trans (x6.keep _ _ pr.2.2.1 ho), q⟩
end Mine
end

section
open PySem PySem.W PyProof.Rows
set_option linter.unusedVariables false
set_option linter.unusedSimpArgs false
set_option maxRecDepth 100000
namespace Mine
variable {g : Cx} {k : Nat} {env : Env} {B Z Z' Z'' : Zm} {ad : Str → Addr} {ρ : Rho} {c c' c'' c1 c2 c3 : Int} {h h' h'' : Heap} {e l r : Expr} {d d1 d2 : D} {p p1 p2 p3 p4 p5 : Pos} {mg mb : Str → Option Value}
variable {K K' : Fl → Rho → Int → Prop} {ss : List Stmt} {st : Stmt}

/-! _law_due -/
structure RowsOk (count : Nat) (rows : List Row) : Prop where
  nd : (rows.map (·.1)).Nodup
  lt : ∀ r ∈ rows, r.1 < 2 * count
  spec : ∀ i, i < count → 2 * i ∈ rows.map (·.1)
  told : ∀ r ∈ rows, ∀ e ∈ r.2, e.1 < count ∧ e.1 ≠ r.1 / 2
  tnd : ∀ r ∈ rows, (r.2.map (·.1)).Nodup
  len : ∀ r ∈ rows, r.2.length ≤ 10
  rl : rows.length ≤ 20
  cnt : count ≤ 4
noncomputable def keysL (rows : List Row) : List Nat := rows.map (·.1)
noncomputable def bodiesL (rows : List Row) (r : Row) : List Nat := ((firstsL r.2).filter fun o => decide (2 * o + 1 ∈ keysL rows)).map fun o => 2 * o + 1
noncomputable def aheadL (rows : List Row) (r : Row) : List Nat := ((toldL r.2).map fun o => 2 * o) ++ bodiesL rows r ++ (if r.1 % 2 = 1 then [r.1 - 1] else [])
noncomputable def aheadKv (rows : List Row) : List (Nat × List Nat) := rows.map fun r => (r.1, aheadL rows r)
noncomputable def wholeL (rows : List Row) (r : Row) : List Nat := aheadL rows r ++ walkOf (aheadKv rows) ((wholesL r.2).map fun o => 2 * o)
noncomputable def wholeKv (rows : List Row) : List (Nat × List Nat) := rows.map fun r => (r.1, wholeL rows r)
noncomputable def wantedL (rows : List Row) (main : Nat) : List Nat := walkOf (aheadKv rows) [2 * main]
noncomputable def keyAt (rows : List Row) (a : Nat) : Nat := ((keysL rows)[a]?).getD 0
noncomputable def readyP (rows : List Row) (wanted came : List Nat) (a : Nat) : Bool :=
  decide (keyAt rows a ∈ wanted) && (!decide (keyAt rows a ∈ came) && (decide ((((wholeKv rows).lookup (keyAt rows a)).getD []).filter (fun x => !decide (x ∈ came)) = []) && true))
noncomputable def readyL (rows : List Row) (wanted came : List Nat) : List Nat := (List.range rows.length).filter (readyP rows wanted came)
noncomputable def dueGo (rows : List Row) (wanted : List Nat) : Nat → List Nat → List Nat → Option (List Nat)
  | 0, _, order => some order
  | m + 1, came, order => if came.length < wanted.length then (match readyL rows wanted came with | [] => none | a :: _ => dueGo rows wanted m (came ++ [keyAt rows a]) (order ++ [a])) else some order
noncomputable def dueOf (rows : List Row) (main : Nat) : Option (List Nat) := dueGo rows (wantedL rows main) (wantedL rows main).length [] []
noncomputable def optD : Option (List Nat) → D
  | some l => natsD l
  | none => .none

theorem rowD_eq (r : Row) : rowD r = .tup [.int r.1, rowUnit (r.1 / 2) (r.1 % 2) r.2, natsD (toldL r.2), natsD (firstsL r.2), natsD (wholesL r.2)] := by
  unfold rowD rowD'
  rw [show 2 * (r.1 / 2) + r.1 % 2 = r.1 by omega]
theorem firstsL_sub {cls : List (Nat × Nat)} {o : Nat} (h : o ∈ firstsL cls) : o ∈ toldL cls := by
  unfold firstsL at h
  obtain ⟨e, he, rfl⟩ := List.mem_map.mp h
  exact List.mem_map.mpr ⟨e, (List.mem_filter.mp he).1, rfl⟩
theorem wholesL_sub {cls : List (Nat × Nat)} {o : Nat} (h : o ∈ wholesL cls) : o ∈ toldL cls := by
  unfold wholesL at h
  obtain ⟨e, he, rfl⟩ := List.mem_map.mp h
  exact List.mem_map.mpr ⟨e, (List.mem_filter.mp he).1, rfl⟩
theorem wholesL_nd {cls : List (Nat × Nat)} (h : (cls.map (·.1)).Nodup) : (wholesL cls).Nodup := by
  unfold wholesL
  exact List.Nodup.sublist (List.Sublist.map _ List.filter_sublist) h
theorem map2_nd {l : List Nat} (h : l.Nodup) : (l.map fun o => 2 * o).Nodup := by
  unfold List.Nodup at *
  rw [List.pairwise_map]
  exact h.imp fun hne e => hne (by omega)
theorem lens (cls : List (Nat × Nat)) : (toldL cls).length = cls.length ∧ (firstsL cls).length ≤ cls.length ∧ (wholesL cls).length ≤ cls.length := by
  refine ⟨by simp [toldL], ?_, ?_⟩
  · unfold firstsL; rw [List.length_map]; exact List.length_filter_le ..
  · unfold wholesL; rw [List.length_map]; exact List.length_filter_le ..
theorem aheadL_len {rows : List Row} (r : Row) (h : r.2.length ≤ 10) : (aheadL rows r).length ≤ 21 := by
  obtain ⟨h1, h2, h3⟩ := lens r.2
  have h4 : (bodiesL rows r).length ≤ (firstsL r.2).length := by unfold bodiesL; rw [List.length_map]; exact List.length_filter_le ..
  unfold aheadL
  simp only [List.length_append, List.length_map]
  split <;> simp <;> omega
theorem goodKv {count : Nat} {rows : List Row} (R : RowsOk count rows) : GoodKv (aheadKv rows) where
  nd := by unfold aheadKv; rw [List.map_map]; exact R.nd
  len := by unfold aheadKv; rw [List.length_map]; have := R.rl; omega
  each := fun e he => by
    obtain ⟨r, hr, rfl⟩ := List.mem_map.mp he
    have := aheadL_len (rows := rows) r (R.len r hr)
    show (aheadL rows r).length ≤ 200
    omega
theorem aheadKv_keys (rows : List Row) : (aheadKv rows).map (·.1) = keysL rows := by unfold aheadKv keysL; rw [List.map_map]; rfl
theorem wIn_wholes {count : Nat} {rows : List Row} (R : RowsOk count rows) {r : Row} (hr : r ∈ rows) : WIn (aheadKv rows) ((wholesL r.2).map fun o => 2 * o) where
  nd := map2_nd (wholesL_nd (R.tnd r hr))
  sub := fun a ha => by
    obtain ⟨o, ho, rfl⟩ := List.mem_map.mp ha
    rw [aheadKv_keys]
    obtain ⟨e, he, rfl⟩ := List.mem_map.mp (wholesL_sub ho)
    exact R.spec _ (R.told r hr e he).1
theorem wIn_main {count : Nat} {rows : List Row} (R : RowsOk count rows) {main : Nat} (h : main < count) : WIn (aheadKv rows) [2 * main] where
  nd := by simp
  sub := fun a ha => by rw [List.mem_singleton.mp ha, aheadKv_keys]; exact R.spec _ h
theorem walkGo_in {l : List (Nat × List Nat)} : ∀ (m at_ : Nat) (f : List Nat), WIn l f → WIn l (walkGo l m at_ f)
  | 0, at_, f, x => x
  | m + 1, at_, f, x => by
    rw [walkGo]
    split
    · exact walkGo_in m _ _ (WIn.puts _ x)
    · exact x
theorem look_map {α : Type} {f : Row → α} : ∀ {rows : List Row} {r : Row}, (rows.map (·.1)).Nodup → r ∈ rows → (rows.map fun r => (r.1, f r)).lookup r.1 = some (f r)
  | [], r, _, h => by cases h
  | q :: rows, r, hn, h => by
    rw [List.map_cons, List.nodup_cons] at hn
    rw [List.map_cons, List.lookup_cons]
    rcases List.mem_cons.mp h with rfl | h
    · simp
    · have : r.1 ≠ q.1 := fun e => hn.1 (e ▸ List.mem_map.mpr ⟨r, h, rfl⟩)
      have hb : (r.1 == q.1) = false := beq_eq_false_iff_ne.mpr this
      rw [hb]
      exact look_map hn.2 h
theorem look_take_none {α : Type} {f : Row → α} {rows : List Row} {i : Nat} {r : Row} (hn : (rows.map (·.1)).Nodup) (h : rows[i]? = some r) : ((rows.take i).map fun r => (r.1, f r)).lookup r.1 = none := by
  have hi : i < rows.length := (List.getElem?_eq_some_iff.mp h).1
  have hr : rows[i] = r := (List.getElem?_eq_some_iff.mp h).2
  cases e : ((rows.take i).map fun r => (r.1, f r)).lookup r.1 with
  | none => rfl
  | some v =>
    have := mem_of_lookupN e
    obtain ⟨q, hq, hqe⟩ := List.mem_map.mp this
    have hqk : q.1 = r.1 := (Prod.mk.inj hqe).1
    rw [← List.take_append_drop i rows, List.map_append, List.nodup_append] at hn
    refine absurd hqk (hn.2.2 q.1 (List.mem_map.mpr ⟨q, hq, rfl⟩) r.1 (List.mem_map.mpr ⟨r, ?_, rfl⟩))
    rw [List.drop_eq_getElem_cons hi, hr]; exact List.mem_cons_self ..
theorem walk_call (P : Pg g mg mb) {l : List (Nat × List Nat)} (G : GoodKv l) {begun : List Nat} (hb : WIn l begun) (hk : ∀ x ∈ l.map (·.1), x ≤ 1000) : Calls g mg 1 "_law_walk" [kvD l, natsD begun] c (natsD (walkOf l begun)) c :=
  P.walk.call (k := 0) P.G frame_walk rfl (body_walk P G hb hk)
theorem binds_due : Binds 26 ["rows", "main"] := binds2 fun a b fd h1 h2 h3 => by
  obtain ⟨n, q, ps, bd, sc, gl, cl, df, kd, doc, pm, an, cd, ct, bl⟩ := fd
  cases h1; cases h2; cases h3
  rfl
theorem frame_due : Frame 26 ["rows", "main"] := ⟨binds_due, by decide, rfl, rfl, rfl, fun L x hx => by simp at hx; rcases hx with rfl | rfl <;> first | exact .inl rfl | exact .inr ⟨rfl, rfl⟩⟩
theorem mod2 (x : Nat) : ((x : Int).fmod 2 == 1) = decide (x % 2 = 1) := by
  rw [Int.fmod_eq_emod_of_nonneg _ (by decide)]
  have := int_eq_nat (x % 2) 1
  rw [show ((x % 2 : Nat) : Int) = (x : Int) % 2 by omega] at this
  exact this
theorem kv_snoc (l : List (Nat × List Nat)) (x : Nat) (v : List Nat) : kvD (l ++ [(x, v)]) = .dI ((l.map fun e => ((e.1 : Int), natsD e.2)) ++ [((x : Int), natsD v)]) := by simp [kvD]
theorem kv_none {l : List (Nat × List Nat)} {x : Nat} (h : l.lookup x = none) : (l.map fun e => ((e.1 : Int), natsD e.2)).lookup (x : Int) = none := by rw [kv_look, h]; rfl
theorem kv_some {l : List (Nat × List Nat)} {x : Nat} {v : List Nat} (h : l.lookup x = some v) : (l.map fun e => ((e.1 : Int), natsD e.2)).lookup (x : Int) = some (natsD v) := by rw [kv_look, h]; rfl
theorem small_mul {o : Nat} : IntMulOk 2 (o : Int) := IntMulOk.of_left (intBits_le_64 (by decide) (by decide))

set_option maxHeartbeats 2000000 in
theorem body_due (P : Pg g mg mb) {count : Nat} {rows : List Row} (R : RowsOk count rows) {main : Nat} (hm : main < count) : BodyAt g 1 26 ["rows", "main"] [.list (rows.map rowD), .int main] c (optD (dueOf rows main)) c := fun L a q code => by
  have hsl : sizeLine = 16777216 := rfl
  have hrl := R.rl
  have hcnt := R.cnt
  have hk1000 : ∀ x ∈ (aheadKv rows).map (·.1), x ≤ 1000 := fun x hx => by
    rw [aheadKv_keys] at hx
    obtain ⟨r, hr, rfl⟩ := List.mem_map.mp hx
    have := R.lt r hr; omega
  have hkl : (keysL rows).length = rows.length := by simp [keysL]
  refine WS.mid [ow "keys" (natsD (keysL rows)), fr "rows" (.list (rows.map rowD)), fr "main" (.int main)] c (WS1.assignO (.inr ⟨rfl, rfl⟩) (WO.compO [] [] rowD rows (fun _ => true) (fun r => .int r.1) (out := (intsOf (keysL rows)).map D.int)
    (WE.name rfl) (.list _) (CompCx.of rfl trivial trivial) (fun C n hn => .nil) (fun C n hn _ => by rw [rowD_eq]; exact WE.sub (WE.toC (WE.name rfl)) WE.int (SubV.tup (by decide) (by decide) rfl)) (by omega) ?_) ⟨Sub.of ⟨rfl, rfl, rfl, trivial⟩, rfl⟩) ?_
  · rw [List.filter_eq_self.mpr (fun _ _ => rfl)]; simp [intsOf, keysL, Function.comp_def]
  refine WS.freeze (x := "keys") rfl ?_
  refine WS.mid [ow "ahead" (kvD []), fr "keys" (natsD (keysL rows)), fr "rows" (.list (rows.map rowD)), fr "main" (.int main)] c (WS1.assignO (.inl rfl) (WO.dict P.G).1 ⟨Sub.of ⟨rfl, rfl, rfl, rfl, trivial⟩, rfl⟩) ?_
  refine WS.mid [ow "ahead" (kvD (aheadKv rows)), fr "keys" (natsD (keysL rows)), fr "rows" (.list (rows.map rowD)), fr "main" (.int main)] c (WS1.forIn (WE.name rfl) (.list _)
    (fun i ρ c1 => ρ = [ow "ahead" (kvD ((rows.take i).map fun r => (r.1, aheadL rows r))), fr "keys" (natsD (keysL rows)), fr "rows" (.list (rows.map rowD)), fr "main" (.int main)] ∧ c1 = c) ⟨_, fun _ _ h => h, rfl, rfl⟩ ?_ ?_) ?_
  · rintro i d1 ρ1 c1 hd ⟨rfl, rfl⟩
    rw [List.getElem?_map, Option.map_eq_some_iff] at hd
    obtain ⟨r, hr, rfl⟩ := hd
    have hrm := List.mem_of_getElem? hr
    have hnone := look_take_none (f := aheadL rows) R.nd hr
    have hl10 := R.len r hrm
    obtain ⟨l1, l2, l3⟩ := lens r.2
    have l4 : (bodiesL rows r).length ≤ (firstsL r.2).length := by unfold bodiesL; rw [List.length_map]; exact List.length_filter_le ..
    rw [rowD_eq]
    refine ⟨_, WA.tup (.cons (.inl rfl) (.cons (.inl rfl) (.cons (.inl rfl) (.cons (.inl rfl) (.cons (.inl rfl) .nil))))), ?_⟩
    refine WS.putAppend (ρ' := [fr "key" (.int r.1)]) (i := r.1) (m := (r.1 : Int) - 1) (b := ((r.1 : Int).fmod 2 == 1)) (ds := (intsOf ((toldL r.2).map fun o => 2 * o)).map D.int ++ (intsOf (bodiesL rows r)).map D.int) rfl rfl ?_ (kv_none hnone) (by simp; omega) (by rw [List.length_append, intsOf_len, intsOf_len, List.length_map]; omega)
      (Sub.of ⟨rfl, trivial⟩) (fun y lv hy => ?_) (WCmp.toT (WCmp.vv (WE.binop (WE.name rfl) WE.int (OpV.int_mod (by decide))) WE.int CmpV.int_eq)) (fun _ => WE.binop (WE.name rfl) WE.int OpV.int_sub) (.nil ⟨_, ?_, rfl, rfl⟩)
    · refine WO.binop (WO.toE (WO.compO [] [] (fun n : Nat => D.int n) (toldL r.2) (fun _ => true) (fun o => .int (2 * (o : Int))) (WE.name rfl) (natsD_iters _) (CompCx.of rfl trivial trivial) (fun C n hn => .nil) (fun C n hn _ => WE.binop WE.int (WE.name rfl) (OpV.int_mul small_mul)) (by omega) ?_))
        (WO.toE (WO.compO [fr "keys" (natsD (keysL rows))] [("keys", L + 1)] (fun n : Nat => D.int n) (firstsL r.2) (fun o => decide (2 * o + 1 ∈ keysL rows)) (fun o => .int (2 * (o : Int) + 1)) (WE.name rfl) (natsD_iters _) (CompCx.of rfl ⟨⟨rfl, .inl rfl, rfl, .inl rfl, rfl⟩, trivial⟩ ⟨rfl, trivial⟩)
          (fun C n hn => ?_) (fun C n hn _ => WE.binop (WE.binop WE.int (WE.name rfl) (OpV.int_mul small_mul)) WE.int OpV.int_add) (by omega) ?_)) (OpO.list_add (by rw [intsOf_len, intsOf_len, List.length_map]; omega))
      · rw [List.filter_eq_self.mpr (fun _ _ => rfl)]; simp [intsOf, Function.comp_def]
      · show WTests _ _ _ _ _ _ (decide (2 * n + 1 ∈ keysL rows))
        rw [← natsD_any, show ((2 * n + 1 : Nat) : Int) = 2 * (n : Int) + 1 by omega]
        exact WTests.one (WCmp.toT (WCmp.vc (WE.binop (WE.binop WE.int (WE.name rfl) (OpV.int_mul small_mul)) WE.int OpV.int_add) (WE.toC (WE.name rfl)) (CmpC.in_list (kinds_nats _ _))))
      · simp [intsOf, bodiesL, Function.comp_def]
    · rcases lookup_put hy with ⟨rfl, _⟩ | ⟨_, hy⟩
      · decide
      · simp at hy
    · refine Sub.of ⟨?_, rfl, rfl, rfl, trivial⟩
      rw [List.take_add_one, hr, Option.toList_some, List.map_append, List.map_cons, List.map_nil, kv_snoc]
      have : natsD (aheadL rows r) = .list (if ((r.1 : Int).fmod 2 == 1) = true then (intsOf ((toldL r.2).map fun o => 2 * o)).map D.int ++ (intsOf (bodiesL rows r)).map D.int ++ [.int ((r.1 : Int) - 1)] else (intsOf ((toldL r.2).map fun o => 2 * o)).map D.int ++ (intsOf (bodiesL rows r)).map D.int) := by
        rw [mod2]
        unfold aheadL
        by_cases h : r.1 % 2 = 1
        · rw [if_pos h, if_pos (by simpa using h), natsD_snoc, show ((r.1 - 1 : Nat) : Int) = (r.1 : Int) - 1 by omega]
          simp [intsOf]
        · rw [if_neg h, if_neg (by simpa using h), List.append_nil, natsD_app]
      rw [this]; rfl
  · rintro ρ1 c1 ⟨rfl, rfl⟩
    rw [List.length_map, List.take_length]
    exact ⟨fun _ _ h => h, rfl⟩
  refine WS.freeze (x := "ahead") rfl ?_
  have GK := goodKv R
  refine WS.mid [ow "whole" (kvD []), fr "ahead" (kvD (aheadKv rows)), fr "keys" (natsD (keysL rows)), fr "rows" (.list (rows.map rowD)), fr "main" (.int main)] c (WS1.assignO (.inr ⟨rfl, rfl⟩) (WO.dict P.G).1 ⟨Sub.of ⟨rfl, rfl, rfl, rfl, rfl, trivial⟩, rfl⟩) ?_
  refine WS.mid [ow "whole" (kvD (wholeKv rows)), fr "ahead" (kvD (aheadKv rows)), fr "keys" (natsD (keysL rows)), fr "rows" (.list (rows.map rowD)), fr "main" (.int main)] c (WS1.forIn (WE.name rfl) (.list _)
    (fun i ρ c1 => ρ = [ow "whole" (kvD ((rows.take i).map fun r => (r.1, wholeL rows r))), fr "ahead" (kvD (aheadKv rows)), fr "keys" (natsD (keysL rows)), fr "rows" (.list (rows.map rowD)), fr "main" (.int main)] ∧ c1 = c) ⟨_, fun _ _ h => h, rfl, rfl⟩ ?_ ?_) ?_
  · rintro i d1 ρ1 c1 hd ⟨rfl, rfl⟩
    rw [List.getElem?_map, Option.map_eq_some_iff] at hd
    obtain ⟨r, hr, rfl⟩ := hd
    have hrm := List.mem_of_getElem? hr
    have hnone := look_take_none (f := wholeL rows) R.nd hr
    have hl10 := R.len r hrm
    obtain ⟨l1, l2, l3⟩ := lens r.2
    have hlook : (aheadKv rows).lookup r.1 = some (aheadL rows r) := look_map R.nd hrm
    have hal := aheadL_len (rows := rows) r hl10
    have hin := wIn_wholes R hrm
    have hwl : (walkOf (aheadKv rows) ((wholesL r.2).map fun o => 2 * o)).length ≤ 50 := by
      have h1 := (walkGo_in (aheadKv rows).length 0 _ hin).len
      have h2 := GK.len
      unfold walkOf; omega
    have hwc := walk_call (c := c1) P GK hin hk1000
    generalize hwv : walkOf (aheadKv rows) ((wholesL r.2).map fun o => 2 * o) = wv at hwl hwc
    have hwL : wholeL rows r = aheadL rows r ++ wv := by unfold wholeL; rw [hwv]
    rw [rowD_eq]
    refine ⟨_, WA.tup (.cons (.inl rfl) (.cons (.inl rfl) (.cons (.inl rfl) (.cons (.inl rfl) (.cons (.inl rfl) .nil))))), ?_⟩
    refine WS.cons (WS1.put (d := natsD (wholeL rows r)) rfl (c1 := c1) ?_ (WE.name rfl) (put_dI (kv_none hnone) (by simp; omega)) (.nil ⟨_, ?_, rfl, rfl⟩))
    · rw [hwL, natsD_app]
      refine WO.toE (WO.binop (WE.sub (WE.toC (WE.name rfl)) (WE.name rfl) (SubV.dI (kv_some hlook))) (WE.callC P.G hwc (.cons (WE.name rfl) (.cons (WO.toE (WO.compO [] [] (fun n : Nat => D.int n) (wholesL r.2) (fun _ => true) (fun o => .int (2 * (o : Int))) (WE.name rfl) (natsD_iters _) (CompCx.of rfl trivial trivial) (fun C n hn => .nil) (fun C n hn _ => WE.binop WE.int (WE.name rfl) (OpV.int_mul small_mul)) (by omega) ?_)) .nil)) (by decide)) (OpO.list_add (by rw [intsOf_len, intsOf_len]; omega)))
      rw [List.filter_eq_self.mpr (fun _ _ => rfl)]; simp [intsOf, Function.comp_def]
    · refine Sub.of ⟨?_, rfl, rfl, rfl, rfl, trivial⟩
      rw [List.take_add_one, hr, Option.toList_some, List.map_append, List.map_cons, List.map_nil, kv_snoc]; rfl
  · rintro ρ1 c1 ⟨rfl, rfl⟩
    rw [List.length_map, List.take_length]
    exact ⟨fun _ _ h => h, rfl⟩
  refine WS.freeze (x := "whole") rfl ?_
  have hinm := wIn_main R hm
  have hwc := walk_call (c := c) P GK hinm hk1000
  have hwin := walkGo_in (aheadKv rows).length 0 _ hinm
  have hwantl : (wantedL rows main).length ≤ 20 := by
    have h1 := hwin.len
    have h2 : (aheadKv rows).length = rows.length := by simp [aheadKv]
    unfold wantedL walkOf; omega
  change Calls _ _ _ _ _ _ (natsD (wantedL rows main)) _ at hwc
  refine WS.mid [fr "wanted" (natsD (wantedL rows main)), fr "whole" (kvD (wholeKv rows)), fr "keys" (natsD (keysL rows)), fr "rows" (.list (rows.map rowD))] c (WS1.assign (.inr ⟨rfl, rfl⟩) (WE.callC P.G hwc (.cons (WE.name rfl) (.cons (WO.toE (c' := c) ?_) .nil)) (by decide)) ⟨Sub.of ⟨rfl, rfl, rfl, rfl, trivial⟩, rfl⟩) ?_
  · exact WO.list (.cons (WE.binop WE.int (WE.name rfl) (OpV.int_mul small_mul)) .nil) (by simp [intsOf, sizeLine])
  unfold dueOf
  generalize wantedL rows main = wanted at hwantl
  let R0 : List Nat → List Nat → Rho := fun came order => [ow "order" (natsD order), ow "came" (natsD came), fr "wanted" (natsD wanted), fr "whole" (kvD (wholeKv rows)), fr "keys" (natsD (keysL rows)), fr "rows" (.list (rows.map rowD))]
  refine WS.mid (R0 [] []) c (WS1.assignNils (xs := ["came", "order"]) (.cons ⟨_, rfl⟩ (.cons ⟨_, rfl⟩ .nil)) (fun x hx => ?_) (fun e he => ?_) rfl (by simp [sizeLine]) ⟨Sub.of ⟨rfl, rfl, rfl, rfl, rfl, rfl, trivial⟩, rfl⟩) ?_
  · simp at hx; rcases hx with rfl | rfl
    · exact .inr ⟨rfl, rfl⟩
    · exact .inl rfl
  · simp at he; rcases he with rfl | rfl <;> exact ⟨_, rfl⟩
  refine WS.cons (WS1.whileDo (fun m ρ c1 => c1 = c ∧ ∃ came order, ρ = R0 came order ∧ m + came.length = wanted.length ∧ order.length = came.length ∧ dueGo rows wanted m came order = dueGo rows wanted wanted.length [] []) wanted.length ⟨_, fun _ _ h => h, rfl, [], [], rfl, rfl, rfl, rfl⟩ ?_)
  rintro m ρ1 c1 ⟨rfl, came, order, rfl, hmc, hoc, hr⟩
  refine ⟨_, c1, WCmp.toT (WCmp.vv (WE.len P.G rfl (WC.name rfl) (.inl ⟨_, rfl, rfl⟩) (by rw [intsOf_len]; omega)) (WE.len P.G rfl (WE.toC (WE.name rfl)) (.inl ⟨_, rfl, rfl⟩) (by rw [intsOf_len]; omega)) CmpV.int_lt), fun hb => ?_, fun hb => ?_⟩
  · rw [intsOf_len, intsOf_len] at hb
    have hb : came.length < wanted.length := by simpa using hb
    cases m with
    | zero => exfalso; omega
    | succ m =>
      rw [dueGo, if_pos hb] at hr
      refine WS.cons (WS1.assignCompO [ow "came" (natsD came), fr "keys" (natsD (keysL rows)), fr "wanted" (natsD wanted), fr "whole" (kvD (wholeKv rows))] [("whole", L + 2), ("wanted", L + 3), ("keys", L + 1), ("came", L + 4)] (fun n : Nat => D.int n) (List.range rows.length) (readyP rows wanted came) (fun n : Nat => D.int n) (out := (intsOf (readyL rows wanted came)).map D.int)
        (WE.range (n := rows.length) P.G rfl (WE.len P.G rfl (WE.toC (WE.name rfl)) (.inl ⟨_, rfl, List.length_map ..⟩) (by omega)) (by omega)) (.rng _)
        (CompCx.of rfl ⟨⟨rfl, .inl rfl, rfl, .inl rfl, rfl⟩, ⟨rfl, .inl rfl, rfl, .inl rfl, rfl⟩, ⟨rfl, .inl rfl, rfl, .inl rfl, rfl⟩, ⟨rfl, .inl rfl, rfl, .inl rfl, rfl⟩, trivial⟩ ⟨rfl, rfl, rfl, rfl, trivial⟩)
        (fun C n hn => ?_) (fun C n hn _ => WE.name rfl) (by simp; omega) ?_ (.inl rfl) ?_)
      · have hn : n < rows.length := by simpa using hn
        have hnk : n < (keysL rows).length := by omega
        have hka : ((intsOf (keysL rows)).map D.int)[((n : Nat) : Int).toNat]? = some (.int (keyAt rows n)) := by simp [intsOf, keyAt, hnk]
        have hrk : keyAt rows n = rows[n].1 := by simp [keyAt, keysL, hn]
        have hwl : (wholeKv rows).lookup (keyAt rows n) = some (wholeL rows rows[n]) := by rw [hrk]; exact look_map R.nd (List.getElem_mem hn)
        have hvl : (wholeL rows rows[n]).length ≤ 71 := by
          have h1 := aheadL_len (rows := rows) rows[n] (R.len _ (List.getElem_mem hn))
          have h2 := (walkGo_in (aheadKv rows).length 0 _ (wIn_wholes R (List.getElem_mem hn))).len
          have h3 := GK.len
          unfold wholeL walkOf
          rw [List.length_append]; omega
        unfold readyP
        rw [hwl, Option.getD_some]
        generalize wholeL rows rows[n] = v at hwl hvl
        generalize keyAt rows n = key at hka hrk hwl
        have e3 : decide ((v.filter fun x => !decide (x ∈ came)) = []) = decide (intsOf (v.filter fun x => !decide (x ∈ came)) = []) := by simp [intsOf]
        rw [e3, ← natsD_any wanted key, ← natsD_any came key]
        have hkw : ∀ {env' : Env} {ρ' : Rho} {p1 p2 p : Pos}, ρ'.lookup ("keys" : Str) = some (.f (natsD (keysL rows))) → ρ'.lookup ("at" : Str) = some (.f (.int n)) → WE g 1 env' ρ' c1 (.Subscript (.Name "keys" p1) (.Name "at" p2) p) (.int key) c1 := fun h1 h2 => WE.sub (WE.toC (WE.name h1)) (WE.name h2) (SubV.list (by omega) (by omega) hka)
        refine WTests.one (WTs.toT (WTs.and_cons (WCmp.toT (WCmp.vc (hkw rfl rfl) (WE.toC (WE.name rfl)) (CmpC.in_list (kinds_nats _ _)))) fun _ => WTs.and_cons (WCmp.toT (WCmp.vc (hkw rfl rfl) (WC.name rfl) (CmpC.notIn_list (kinds_nats _ _)))) fun _ =>
          WTs.and_cons (WCmp.toT (WCmp.cc (WO.toC (WO.compO [ow "came" (natsD came)] [("came", L + 4)] (fun n : Nat => D.int n) v (fun x => !decide (x ∈ came)) (fun n : Nat => D.int n) (out := (intsOf (v.filter fun x => !decide (x ∈ came))).map D.int)
            (WE.sub (WE.toC (WE.name rfl)) (hkw rfl rfl) (SubV.dI (kv_some hwl))) (natsD_iters v) (CompCx.of rfl ⟨⟨rfl, .inl rfl, rfl, .inl rfl, rfl⟩, trivial⟩ ⟨rfl, trivial⟩) (fun C2 x hx => ?_) (fun C2 x hx _ => WE.name rfl) (by omega) ?_))
            (WO.toC (WO.list .nil)) (CmpCC.eq (ms := [])))) fun _ => WTs.and_nil))
        · show WTests _ _ _ _ _ _ (!decide (x ∈ came))
          rw [← natsD_any]
          exact WTests.one (WCmp.toT (WCmp.vc (WE.name rfl) (WC.name rfl) (CmpC.notIn_list (kinds_nats _ _))))
        · simp [intsOf, Function.comp_def]
      · simp [readyL, intsOf, Function.comp_def]
      · have hrdl : ∀ x ∈ readyL rows wanted came, x < rows.length := fun x hx => by
          have := (List.mem_filter.mp hx).1; simpa using this
        generalize readyL rows wanted came = rd at hr hrdl
        refine WS.cons (WS1.ite (WCmp.toT (WCmp.cc (WC.name rfl) (WO.toC (WO.list .nil)) (CmpCC.eq (ns := intsOf rd) (ms := [])))) (fun hb => ?_) fun hb => ?_)
        · have hb : rd = [] := by
            have := of_decide_eq_true hb
            cases rd with
            | nil => rfl
            | cons x l => simp [intsOf] at this
          subst hb
          rw [← hr]
          exact WS.cons (WS1.ret WE.none ⟨rfl, .inl rfl⟩)
        · cases rd with
          | nil => simp [intsOf] at hb
          | cons x l =>
            simp only at hr
            have hx := hrdl x (List.mem_cons_self ..)
            have hxk : x < (keysL rows).length := by omega
            have h0 : ((intsOf (x :: l)).map D.int)[(0 : Int).toNat]? = some (.int x) := by simp [intsOf]
            have hka : ((intsOf (keysL rows)).map D.int)[((x : Nat) : Int).toNat]? = some (.int (keyAt rows x)) := by simp [intsOf, keyAt, hxk]
            have hr0 : ∀ {ρ : Rho} {p1 p2 p : Pos}, ρ.lookup ("ready" : Str) = some (.o (natsD (x :: l))) → WE g 1 (fenv (fnAt 26).2.2 L a q code) ρ c1 (.Subscript (.Name "ready" p1) (.Constant (.int 0) 0 p2) p) (.int x) c1 := fun h => WE.sub (WC.name h) WE.int (SubV.list (by decide) (by decide) h0)
            refine .nil ?_
            refine WS.cons (WS1.append (d := .int x) rfl (hr0 rfl) ?_ (by rw [intsOf_len]; omega))
            refine WS.cons (WS1.append (d := .int (keyAt rows x)) rfl (WE.sub (WE.toC (WE.name rfl)) (hr0 rfl) (SubV.list (by omega) (by omega) hka)) (.nil ⟨m, R0 (came ++ [keyAt rows x]) (order ++ [x]), by omega, ?_, rfl, _, _, rfl, by simp; omega, by simp [hoc], hr⟩) (by rw [intsOf_len]; omega))
            rw [← natsD_snoc, ← natsD_snoc]
            exact Sub.of ⟨rfl, rfl, rfl, rfl, rfl, rfl, trivial⟩
  · rw [intsOf_len, intsOf_len] at hb
    have hb : ¬ came.length < wanted.length := by simpa using hb
    have e : some order = dueGo rows wanted wanted.length [] [] := by
      rw [← hr]
      cases m with
      | zero => rfl
      | succ m => rw [dueGo, if_neg hb]
    rw [← e]
    exact WS.freeze (x := "order") rfl (WS.cons (WS1.ret (WE.name rfl) ⟨rfl, .inl rfl⟩))
end Mine
end

section
open PySem PySem.W PyProof.Rows
set_option linter.unusedVariables false
set_option linter.unusedSimpArgs false
set_option maxRecDepth 100000
namespace Mine

/-! the plain law -/
noncomputable def keyP (k : Nat) : Str × Str := (nm (k / 2), sortS (decide (k % 2 = 1)))
noncomputable def partOf (r : Row) : Part := ⟨nm (r.1 / 2), decide (r.1 % 2 = 1), (toldL r.2).map nm, (firstsL r.2).map nm, (wholesL r.2).map nm⟩
noncomputable def partsOf (rows : List Row) : List Part := rows.map partOf
theorem nm_inj : ∀ i : Nat, i < 10 → ∀ j : Nat, j < 10 → nm i = nm j → i = j := by decide
theorem keyP_inj {k k' : Nat} (h : k < 20) (h' : k' < 20) (e : keyP k = keyP k') : k = k' := by
  unfold keyP at e
  have e1 := nm_inj (k / 2) (by omega) (k' / 2) (by omega) (Prod.mk.inj e).1
  have e2 := (Prod.mk.inj e).2
  by_cases h1 : k % 2 = 1 <;> by_cases h2 : k' % 2 = 1
  · omega
  · rw [decide_eq_true h1, decide_eq_false h2] at e2; exact absurd e2 (by decide)
  · rw [decide_eq_false h1, decide_eq_true h2] at e2; exact absurd e2 (by decide)
  · omega
theorem spK_eq (i : Nat) : spK (nm i) = keyP (2 * i) := by
  unfold keyP
  rw [show 2 * i / 2 = i by omega, show 2 * i % 2 = 0 by omega]; rfl
theorem bdK_eq (i : Nat) : bdK (nm i) = keyP (2 * i + 1) := by
  unfold keyP
  rw [show (2 * i + 1) / 2 = i by omega, show (2 * i + 1) % 2 = 1 by omega]; rfl
theorem keysOf_parts (rows : List Row) : keysOf (partsOf rows) = (keysL rows).map keyP := by
  unfold keysOf partsOf keysL
  rw [List.map_map, List.map_map]; rfl

section
variable {count : Nat} {rows : List Row} (R : RowsOk count rows)
include R
theorem key_lt {k : Nat} (h : k ∈ keysL rows) : k < 8 := by
  obtain ⟨r, hr, rfl⟩ := List.mem_map.mp h
  have := R.lt r hr; have := R.cnt; omega
theorem mem_keysP {k : Nat} (hk : k < 20) : keyP k ∈ keysOf (partsOf rows) ↔ k ∈ keysL rows := by
  rw [keysOf_parts, List.mem_map]
  constructor
  · rintro ⟨k', h, e⟩
    rw [← keyP_inj (by have := key_lt R h; omega) hk e]; exact h
  · exact fun h => ⟨k, h, rfl⟩
theorem placeP {k : Nat} (hk : k < 20) : placeOf (partsOf rows) (keyP k) = (keysL rows).idxOf k := by
  unfold placeOf
  rw [keysOf_parts]
  have : ∀ l : List Nat, (∀ x ∈ l, x < 20) → (l.map keyP).idxOf (keyP k) = l.idxOf k := by
    intro l
    induction l with
    | nil => intro _; rfl
    | cons x l ih =>
      intro hl
      rw [List.map_cons, List.idxOf_cons, List.idxOf_cons, ih fun y hy => hl y (List.mem_cons_of_mem _ hy)]
      by_cases h : x = k
      · subst h; simp
      · have h1 : (x == k) = false := beq_eq_false_iff_ne.mpr h
        have h2 : (keyP x == keyP k) = false := beq_eq_false_iff_ne.mpr fun e => h (keyP_inj (hl x (List.mem_cons_self ..)) hk e)
        rw [h1, h2]
  exact this _ fun x hx => by have := key_lt R hx; omega
end
noncomputable def posK (rows : List Row) (k : Nat) : Nat := (keysL rows).idxOf k
theorem keyAt_pos {rows : List Row} {k : Nat} (h : k ∈ keysL rows) : keyAt rows (posK rows k) = k := by
  unfold keyAt posK
  have hl := List.idxOf_lt_length_iff.mpr h
  rw [List.getElem?_eq_getElem hl, Option.getD_some]
  exact List.getElem_idxOf hl
theorem pos_lt {rows : List Row} {k : Nat} (h : k ∈ keysL rows) : posK rows k < rows.length := by
  have := List.idxOf_lt_length_iff.mpr h
  unfold posK; simpa [keysL] using this
theorem keyAt_mem {rows : List Row} {a : Nat} (h : a < rows.length) : keyAt rows a ∈ keysL rows := by
  have h' : a < (keysL rows).length := by simpa [keysL] using h
  unfold keyAt; rw [List.getElem?_eq_getElem h', Option.getD_some]; exact List.getElem_mem h'
theorem pos_keyAt {count : Nat} {rows : List Row} (R : RowsOk count rows) {a : Nat} (h : a < rows.length) : posK rows (keyAt rows a) = a := by
  have h' : a < (keysL rows).length := by simpa [keysL] using h
  unfold keyAt posK; rw [List.getElem?_eq_getElem h', Option.getD_some]
  exact List.Nodup.idxOf_getElem R.nd a h'

/-- the keys that a row needs, as the code sees it -/
noncomputable def N1 (rows : List Row) (r : Row) : List Nat := (if r.1 % 2 = 1 then [r.1 - 1] else []) ++ (toldL r.2).map (fun o => 2 * o) ++ ((firstsL r.2 ++ wholesL r.2).filter fun o => decide (2 * o + 1 ∈ keysL rows)).map fun o => 2 * o + 1
section
variable {count : Nat} {rows : List Row} (R : RowsOk count rows)
include R
theorem told_lt {r : Row} (hr : r ∈ rows) {o : Nat} (ho : o ∈ toldL r.2) : o < count := by
  obtain ⟨e, he, rfl⟩ := List.mem_map.mp ho
  exact (R.told r hr e he).1
theorem nkeys_eq {r : Row} (hr : r ∈ rows) : nkeys (partsOf rows) (partOf r) = (N1 rows r).map keyP := by
  have hrk : r.1 < 8 := key_lt R (List.mem_map.mpr ⟨r, hr, rfl⟩)
  unfold nkeys N1
  rw [List.map_append, List.map_append]
  congr 1
  · congr 1
    · show (if decide (r.1 % 2 = 1) = true then [spK (nm (r.1 / 2))] else []) = _
      by_cases h : r.1 % 2 = 1
      · rw [if_pos (decide_eq_true h), if_pos h, spK_eq, show 2 * (r.1 / 2) = r.1 - 1 by omega]; rfl
      · rw [if_neg (by simpa using h), if_neg h]; rfl
    · show ((toldL r.2).map nm).map spK = _
      rw [List.map_map, List.map_map]
      exact List.map_congr_left fun o _ => spK_eq o
  · show bodyKeys _ ((firstsL r.2).map nm ++ (wholesL r.2).map nm) = _
    unfold bodyKeys
    rw [← List.map_append, List.filter_map, List.map_map, List.map_map]
    have hf : ∀ o ∈ firstsL r.2 ++ wholesL r.2, (decide (bdK (nm o) ∈ keysOf (partsOf rows))) = decide (2 * o + 1 ∈ keysL rows) := fun o ho => by
      have hlt : o < count := by
        rcases List.mem_append.mp ho with q | q
        · exact told_lt R hr (firstsL_sub q)
        · exact told_lt R hr (wholesL_sub q)
      have := R.cnt
      rw [bdK_eq]
      exact decide_eq_decide.mpr (mem_keysP R (by omega))
    rw [show ((fun o => decide (bdK o ∈ keysOf (partsOf rows))) ∘ nm) = fun o => decide (bdK (nm o) ∈ keysOf (partsOf rows)) from rfl, List.filter_congr hf]
    exact List.map_congr_left fun o _ => bdK_eq o
theorem N1_mem {r : Row} (hr : r ∈ rows) {k : Nat} (hk : k ∈ N1 rows r) : k ∈ keysL rows := by
  have hrl := R.lt r hr
  unfold N1 at hk
  rcases List.mem_append.mp hk with q | q
  · rcases List.mem_append.mp q with q | q
    · split at q
      · rename_i h
        rw [List.mem_singleton.mp q, show r.1 - 1 = 2 * (r.1 / 2) by omega]
        exact R.spec _ (by omega)
      · cases q
    · obtain ⟨o, ho, rfl⟩ := List.mem_map.mp q
      exact R.spec _ (told_lt R hr ho)
  · obtain ⟨o, ho, rfl⟩ := List.mem_map.mp q
    simpa using (List.mem_filter.mp ho).2
theorem mem_needs {r : Row} (hr : r ∈ rows) {x : Nat} : x ∈ needsOf (partsOf rows) (partOf r) ↔ ∃ k ∈ N1 rows r, posK rows k = x := by
  rw [mem_needsOf, nkeys_eq R hr]
  constructor
  · rintro ⟨kp, hk, rfl⟩
    obtain ⟨k, hk2, rfl⟩ := List.mem_map.mp hk
    refine ⟨k, hk2, ?_⟩
    rw [placeP R (by have := key_lt R (N1_mem R hr hk2); omega)]; rfl
  · rintro ⟨k, hk, rfl⟩
    refine ⟨keyP k, List.mem_map.mpr ⟨k, hk, rfl⟩, ?_⟩
    rw [placeP R (by have := key_lt R (N1_mem R hr hk); omega)]; rfl
end

/-! the law's own walk finds what is reached -/
noncomputable def lnx (l : List (Nat × List Nat)) (k : Nat) : List Nat := (aheadOf l k).filter fun o => (l.lookup o).isSome
theorem wPuts_mem {l : List (Nat × List Nat)} {x : Nat} : ∀ (os : List Nat) (f : List Nat), x ∈ os.foldl (wPut l) f ↔ x ∈ f ∨ (x ∈ os ∧ (l.lookup x).isSome = true)
  | [], f => by simp
  | o :: os, f => by
    rw [List.foldl_cons, wPuts_mem os]
    have : x ∈ wPut l f o ↔ x ∈ f ∨ (x = o ∧ (l.lookup x).isSome = true) := by
      unfold wPut
      split
      · rename_i h
        rw [List.mem_append, List.mem_singleton]
        constructor
        · rintro (q | rfl)
          · exact .inl q
          · exact .inr ⟨rfl, h.1⟩
        · rintro (q | ⟨rfl, _⟩)
          · exact .inl q
          · exact .inr rfl
      · rename_i h
        constructor
        · exact .inl
        · rintro (q | ⟨rfl, hs⟩)
          · exact q
          · exact Classical.byContradiction fun hn => h ⟨hs, hn⟩
    rw [this]
    simp only [List.mem_cons]
    constructor
    · rintro ((q | ⟨rfl, hs⟩) | ⟨q, hs⟩)
      · exact .inl q
      · exact .inr ⟨.inl rfl, hs⟩
      · exact .inr ⟨.inr q, hs⟩
    · rintro (q | ⟨rfl | q, hs⟩)
      · exact .inl (.inl q)
      · exact .inl (.inr ⟨rfl, hs⟩)
      · exact .inr ⟨q, hs⟩
theorem wPuts_pre {l : List (Nat × List Nat)} : ∀ (os : List Nat) (f : List Nat) (j : Nat), j < f.length → (os.foldl (wPut l) f)[j]? = f[j]?
  | [], f, j, _ => rfl
  | o :: os, f, j, hj => by
    rw [List.foldl_cons]
    have hle : f.length ≤ (wPut l f o).length := by unfold wPut; split <;> simp
    rw [wPuts_pre os _ j (by omega)]
    unfold wPut
    split
    · rw [List.getElem?_append_left hj]
    · rfl
/-- the walk's state: what is left of at is done -/
theorem walkGo_mem {l : List (Nat × List Nat)} {begun : List Nat} : ∀ (m at_ : Nat) (f : List Nat), WIn l f → (∀ x ∈ begun, x ∈ f) → (∀ x ∈ f, ∃ b ∈ begun, Reach (lnx l) b x) → (∀ i k, i < at_ → f[i]? = some k → ∀ y ∈ lnx l k, y ∈ f) → m + at_ = l.length →
    ∀ x, x ∈ walkGo l m at_ f ↔ ∃ b ∈ begun, Reach (lnx l) b x
  | 0, at_, f, win, h1, h2, h3, hm => fun x => by
    have hfl := win.len
    rw [walkGo]
    refine ⟨h2 x, fun ⟨b, hb, hr⟩ => ?_⟩
    refine Reach.closed (S := (· ∈ f)) (h1 b hb) (fun a ha y hy => ?_) hr
    obtain ⟨i, hi, he⟩ := List.mem_iff_getElem.mp ha
    exact h3 i a (by omega) (by rw [List.getElem?_eq_getElem hi, he]) y hy
  | m + 1, at_, f, win, h1, h2, h3, hm => fun x => by
    rw [walkGo]
    split
    · rename_i key hk
      have hlt := (List.getElem?_eq_some_iff.mp hk).1
      have hmono : ∀ y ∈ f, y ∈ wTurn l f key := fun y hy => (wPuts_mem _ _).mpr (.inl hy)
      have hkey : key ∈ f := List.mem_of_getElem? hk
      refine walkGo_mem m (at_ + 1) _ (WIn.puts _ win) (fun y hy => hmono y (h1 y hy)) (fun y hy => ?_) (fun i k hi hik y hy => ?_) (by omega) x
      · rcases (wPuts_mem _ _).mp hy with q | ⟨q, hs⟩
        · exact h2 y q
        · obtain ⟨b, hb, hr⟩ := h2 key hkey
          exact ⟨b, hb, .step hr (List.mem_filter.mpr ⟨q, hs⟩)⟩
      · have hpre : ∀ j, j < f.length → (wTurn l f key)[j]? = f[j]? := fun j hj => wPuts_pre _ _ j hj
        change (wTurn l f key)[i]? = some k at hik
        rw [hpre i (by omega)] at hik
        by_cases hia : i = at_
        · subst hia
          rw [hk] at hik; cases hik
          have := List.mem_filter.mp hy
          exact (wPuts_mem _ _).mpr (.inr this)
        · exact hmono y (h3 i k (by omega) hik y hy)
    · rename_i hk
      have hge : f.length ≤ at_ := by simpa using hk
      refine ⟨h2 x, fun ⟨b, hb, hr⟩ => ?_⟩
      refine Reach.closed (S := (· ∈ f)) (h1 b hb) (fun a ha y hy => ?_) hr
      obtain ⟨i, hi, he⟩ := List.mem_iff_getElem.mp ha
      exact h3 i a (by omega) (by rw [List.getElem?_eq_getElem hi, he]) y hy
theorem mem_walkOf {l : List (Nat × List Nat)} {begun : List Nat} (h : WIn l begun) (x : Nat) : x ∈ walkOf l begun ↔ ∃ b ∈ begun, Reach (lnx l) b x :=
  walkGo_mem l.length 0 begun h (fun _ h => h) (fun x hx => ⟨x, hx, .refl⟩) (fun i k hi => absurd hi (Nat.not_lt_zero _)) rfl x
end Mine
end

section
open PySem PySem.W PyProof.Rows
set_option linter.unusedVariables false
set_option linter.unusedSimpArgs false
set_option maxRecDepth 100000
namespace Mine

/-! what is reached, the code's way and the law's -/
theorem reach_trans {nx : Nat → List Nat} {a b c : Nat} (h1 : Reach nx a b) (h2 : Reach nx b c) : Reach nx a c := by
  induction h2 with
  | refl => exact h1
  | step _ hb ih => exact .step ih hb
section
variable {count : Nat} {rows : List Row} (R : RowsOk count rows)
include R
theorem row_of {k : Nat} (h : k ∈ keysL rows) : ∃ r ∈ rows, r.1 = k ∧ rows[posK rows k]? = some r := by
  have hl := pos_lt h
  refine ⟨rows[posK rows k], List.getElem_mem hl, ?_, List.getElem?_eq_getElem hl⟩
  have := keyAt_pos h
  unfold keyAt keysL at this
  rw [List.getElem?_map, List.getElem?_eq_getElem hl] at this
  exact this
theorem look_ahead {r : Row} (hr : r ∈ rows) : (aheadKv rows).lookup r.1 = some (aheadL rows r) := look_map R.nd hr
theorem look_keys {k : Nat} : ((aheadKv rows).lookup k).isSome = true ↔ k ∈ keysL rows := by rw [look_mem, aheadKv_keys]
/-- one step of the law's walk -/
theorem mem_lnx {r : Row} (hr : r ∈ rows) {x : Nat} : x ∈ lnx (aheadKv rows) r.1 ↔ x ∈ keysL rows ∧ (x ∈ aheadL rows r ∨ x = r.1 + 1 - r.1 % 2) := by
  unfold lnx aheadOf
  rw [List.mem_filter, look_keys R, look_ahead R hr, Option.getD_some, List.mem_append, List.mem_singleton]
  exact And.comm
theorem lreach_keys {s x : Nat} (hs : s ∈ keysL rows) (h : Reach (lnx (aheadKv rows)) s x) : x ∈ keysL rows :=
  Reach.closed (S := (· ∈ keysL rows)) hs (fun a ha b hb => by
    obtain ⟨r, hr, rfl, _⟩ := row_of R ha
    exact ((mem_lnx R hr).mp hb).1) h

theorem mem_aheadL {r : Row} {x : Nat} : x ∈ aheadL rows r ↔ (∃ o ∈ toldL r.2, x = 2 * o) ∨ (∃ o ∈ firstsL r.2, 2 * o + 1 ∈ keysL rows ∧ x = 2 * o + 1) ∨ (r.1 % 2 = 1 ∧ x = r.1 - 1) := by
  unfold aheadL bodiesL
  rw [List.mem_append, List.mem_append, List.mem_map, List.mem_map]
  constructor
  · rintro ((⟨o, ho, rfl⟩ | ⟨o, ho, rfl⟩) | q)
    · exact .inl ⟨o, ho, rfl⟩
    · have := List.mem_filter.mp ho
      exact .inr (.inl ⟨o, this.1, by simpa using this.2, rfl⟩)
    · split at q
      · rename_i h; exact .inr (.inr ⟨h, List.mem_singleton.mp q⟩)
      · cases q
  · rintro (⟨o, ho, rfl⟩ | ⟨o, ho, hk, rfl⟩ | ⟨h, rfl⟩)
    · exact .inl (.inl ⟨o, ho, rfl⟩)
    · exact .inl (.inr ⟨o, List.mem_filter.mpr ⟨ho, by simpa using hk⟩, rfl⟩)
    · rw [if_pos h]; exact .inr (by simp)
theorem mem_N1 {r : Row} {x : Nat} : x ∈ N1 rows r ↔ (∃ o ∈ toldL r.2, x = 2 * o) ∨ (∃ o, (o ∈ firstsL r.2 ∨ o ∈ wholesL r.2) ∧ 2 * o + 1 ∈ keysL rows ∧ x = 2 * o + 1) ∨ (r.1 % 2 = 1 ∧ x = r.1 - 1) := by
  unfold N1
  rw [List.mem_append, List.mem_append, List.mem_map, List.mem_map]
  constructor
  · rintro ((q | ⟨o, ho, rfl⟩) | ⟨o, ho, rfl⟩)
    · split at q
      · rename_i h; exact .inr (.inr ⟨h, List.mem_singleton.mp q⟩)
      · cases q
    · exact .inl ⟨o, ho, rfl⟩
    · have := List.mem_filter.mp ho
      exact .inr (.inl ⟨o, List.mem_append.mp this.1, by simpa using this.2, rfl⟩)
  · rintro (⟨o, ho, rfl⟩ | ⟨o, ho, hk, rfl⟩ | ⟨h, rfl⟩)
    · exact .inl (.inr ⟨o, ho, rfl⟩)
    · exact .inr ⟨o, List.mem_filter.mpr ⟨List.mem_append.mpr ho, by simpa using hk⟩, rfl⟩
    · rw [if_pos h]; exact .inl (.inl (by simp))
/-- ahead is part of what the code needs -/
theorem ahead_N1 {r : Row} {x : Nat} (h : x ∈ aheadL rows r) : x ∈ N1 rows r := by
  rcases (mem_aheadL R).mp h with q | ⟨o, ho, hk, rfl⟩ | q
  · exact (mem_N1 R).mpr (.inl q)
  · exact (mem_N1 R).mpr (.inr (.inl ⟨o, .inl ho, hk, rfl⟩))
  · exact (mem_N1 R).mpr (.inr (.inr q))
/-- what the code needs is reached by the law's walk -/
theorem N1_reach {r : Row} (hr : r ∈ rows) {x : Nat} (h : x ∈ N1 rows r) : Reach (lnx (aheadKv rows)) r.1 x := by
  have hx := N1_mem R hr h
  by_cases ha : x ∈ aheadL rows r
  · exact .step .refl ((mem_lnx R hr).mpr ⟨hx, .inl ha⟩)
  · rcases (mem_N1 R).mp h with q | ⟨o, ho, hk, rfl⟩ | q
    · exact absurd ((mem_aheadL R).mpr (.inl q)) ha
    · rcases ho with ho | ho
      · exact absurd ((mem_aheadL R).mpr (.inr (.inl ⟨o, ho, hk, rfl⟩))) ha
      · have hot := wholesL_sub ho
        have hsp : 2 * o ∈ keysL rows := R.spec _ (told_lt R hr hot)
        have st1 : Reach (lnx (aheadKv rows)) r.1 (2 * o) := .step .refl ((mem_lnx R hr).mpr ⟨hsp, .inl ((mem_aheadL R).mpr (.inl ⟨o, hot, rfl⟩))⟩)
        obtain ⟨r2, hr2, hr2k, _⟩ := row_of R hsp
        rw [← hr2k] at st1
        refine .step st1 ((mem_lnx R hr2).mpr ⟨hx, .inr ?_⟩)
        rw [hr2k]; omega
    · exact absurd ((mem_aheadL R).mpr (.inr (.inr q))) ha

/-- one step of the code's walk, in keys; N: the needs by key, at least N1 and all of them reached -/
theorem nxt_mem {nl : List (List Nat)} {a : Nat} (ha : a < rows.length) {x : Nat} : x ∈ nxt (partsOf rows) nl a ↔ x ∈ (nl[a]?).getD [] ∨ (2 * (keyAt rows a / 2) + 1 ∈ keysL rows ∧ x = posK rows (2 * (keyAt rows a / 2) + 1)) := by
  have hk : keyAt rows a = rows[a].1 := by simp [keyAt, keysL, ha]
  have hr8 := key_lt R (keyAt_mem ha)
  unfold nxt partsOf
  rw [List.getElem?_map, List.getElem?_eq_getElem ha, Option.map_some, List.mem_append]
  simp only
  have e1 : bdK (partOf rows[a]).nm = keyP (2 * (keyAt rows a / 2) + 1) := by rw [hk]; exact bdK_eq _
  have e2 := mem_keysP R (k := 2 * (keyAt rows a / 2) + 1) (by omega)
  have e3 := placeP R (k := 2 * (keyAt rows a / 2) + 1) (by omega)
  unfold partsOf at e2 e3
  rw [e1]
  constructor
  · rintro (q | q)
    · exact .inl q
    · split at q
      · rename_i h
        rw [List.mem_singleton.mp q, e3]
        exact .inr ⟨e2.mp h, rfl⟩
      · cases q
  · rintro (q | ⟨h, rfl⟩)
    · exact .inl q
    · rw [if_pos (e2.mpr h), e3]
      exact .inr (by simp [posK])
theorem reach_iff {nl : List (List Nat)} (hlow : ∀ (a : Nat) (ha : a < rows.length), ∀ k ∈ N1 rows rows[a], posK rows k ∈ (nl[a]?).getD [])
    (hup : ∀ (a : Nat) (ha : a < rows.length), ∀ x ∈ (nl[a]?).getD [], x < rows.length ∧ Reach (lnx (aheadKv rows)) (keyAt rows a) (keyAt rows x)) {s : Nat} (hs : s ∈ keysL rows) {a : Nat} :
    Reach (nxt (partsOf rows) nl) (posK rows s) a ↔ a < rows.length ∧ Reach (lnx (aheadKv rows)) s (keyAt rows a) := by
  constructor
  · intro h
    refine Reach.closed (S := fun a => a < rows.length ∧ Reach (lnx (aheadKv rows)) s (keyAt rows a)) ⟨pos_lt hs, by rw [keyAt_pos hs]; exact .refl⟩ (fun b ⟨hb, hrb⟩ x hx => ?_) h
    rcases (nxt_mem R hb).mp hx with q | ⟨hk, rfl⟩
    · obtain ⟨h1, h2⟩ := hup b hb x q
      exact ⟨h1, reach_trans hrb h2⟩
    · refine ⟨pos_lt hk, ?_⟩
      rw [keyAt_pos hk]
      obtain ⟨r, hr, hrk, _⟩ := row_of R (keyAt_mem hb)
      rw [← hrk] at hrb hk ⊢
      by_cases ho : r.1 % 2 = 1
      · rw [show 2 * (r.1 / 2) + 1 = r.1 by omega]; exact hrb
      · exact .step hrb ((mem_lnx R hr).mpr ⟨hk, .inr (by omega)⟩)
  · rintro ⟨ha, h⟩
    have key : ∀ k, Reach (lnx (aheadKv rows)) s k → k ∈ keysL rows ∧ Reach (nxt (partsOf rows) nl) (posK rows s) (posK rows k) := fun k h => by
      refine Reach.closed (S := fun k => k ∈ keysL rows ∧ Reach (nxt (partsOf rows) nl) (posK rows s) (posK rows k)) ⟨hs, .refl⟩ (fun b ⟨hb, hrb⟩ x hx => ?_) h
      obtain ⟨r, hr, rfl, hat⟩ := row_of R hb
      obtain ⟨hxk, hx2⟩ := (mem_lnx R hr).mp hx
      refine ⟨hxk, .step hrb ((nxt_mem R (pos_lt hb)).mpr ?_)⟩
      have hre : rows[posK rows r.1]'(pos_lt hb) = r := by
        have := List.getElem?_eq_getElem (pos_lt hb)
        rw [this] at hat; exact Option.some.inj hat
      rcases hx2 with q | rfl
      · have := hlow (posK rows r.1) (pos_lt hb) x (by rw [hre]; exact ahead_N1 R q)
        exact .inl this
      · rw [keyAt_pos hb]
        refine .inr ?_
        have e : r.1 + 1 - r.1 % 2 = 2 * (r.1 / 2) + 1 := by omega
        rw [e] at hxk ⊢
        exact ⟨hxk, rfl⟩
    have := (key _ h).2
    rwa [pos_keyAt R ha] at this
end
end Mine
end

section
open PySem PySem.W PyProof.Rows
set_option linter.all false
set_option maxRecDepth 100000
namespace Mine

section
variable {count : Nat} {rows : List Row} (R : RowsOk count rows)
include R
theorem goodParts : GoodParts (partsOf rows) where
  nodup := by
    rw [keysOf_parts]
    unfold List.Nodup
    rw [List.pairwise_map]
    refine List.Pairwise.imp_of_mem (fun {a b} ha hb hne e => hne (keyP_inj (by have := key_lt R ha; omega) (by have := key_lt R hb; omega) e)) R.nd
  spec := fun p hp => by
    obtain ⟨r, hr, rfl⟩ := List.mem_map.mp hp
    have hrl := R.lt r hr
    have hc := R.cnt
    show spK (nm (r.1 / 2)) ∈ _
    rw [spK_eq]
    exact (mem_keysP R (by omega)).mpr (R.spec _ (by omega))
  withs := fun p hp o ho => by
    obtain ⟨r, hr, rfl⟩ := List.mem_map.mp hp
    obtain ⟨i, hi, rfl⟩ := List.mem_map.mp ho
    have hc := R.cnt
    have := told_lt R hr hi
    show spK (nm i) ∈ _
    rw [spK_eq]
    exact (mem_keysP R (by omega)).mpr (R.spec _ this)
  wants := fun p hp o ho => by
    obtain ⟨r, hr, rfl⟩ := List.mem_map.mp hp
    rcases List.mem_append.mp ho with q | q
    · obtain ⟨i, hi, rfl⟩ := List.mem_map.mp q
      exact List.mem_map.mpr ⟨i, firstsL_sub hi, rfl⟩
    · obtain ⟨i, hi, rfl⟩ := List.mem_map.mp q
      exact List.mem_map.mpr ⟨i, wholesL_sub hi, rfl⟩
  len := by have := R.rl; unfold partsOf; rw [List.length_map]; omega
  each := fun p hp => by
    obtain ⟨r, hr, rfl⟩ := List.mem_map.mp hp
    obtain ⟨h1, h2, h3⟩ := lens r.2
    have := R.len r hr
    show ((toldL r.2).map nm).length + ((firstsL r.2).map nm).length + ((wholesL r.2).map nm).length ≤ 100
    rw [List.length_map, List.length_map, List.length_map]; omega
  nmlen := fun p hp => by
    obtain ⟨r, hr, rfl⟩ := List.mem_map.mp hp
    have hrl := R.lt r hr
    have hc := R.cnt
    show (nm (r.1 / 2)).length ≤ 100
    unfold nm
    rw [len_app]
    have h1 := nm_small (r.1 / 2) (by omega)
    have h2 : ("u" : Str).length = 1 := rfl
    omega

theorem needs1_at {a : Nat} (ha : a < rows.length) : (needs1 (partsOf rows))[a]? = some (needsOf (partsOf rows) (partOf rows[a])) := by
  unfold needs1
  conv => lhs; arg 1; arg 2; unfold partsOf
  rw [List.getElem?_map, List.getElem?_map, List.getElem?_eq_getElem ha]; rfl
theorem low1 (a : Nat) (ha : a < rows.length) : ∀ k ∈ N1 rows rows[a], posK rows k ∈ ((needs1 (partsOf rows))[a]?).getD [] := fun k hk => by
  rw [needs1_at R ha, Option.getD_some]
  exact (mem_needs R (List.getElem_mem ha)).mpr ⟨k, hk, rfl⟩
theorem up1 (a : Nat) (ha : a < rows.length) : ∀ x ∈ ((needs1 (partsOf rows))[a]?).getD [], x < rows.length ∧ Reach (lnx (aheadKv rows)) (keyAt rows a) (keyAt rows x) := fun x hx => by
  rw [needs1_at R ha, Option.getD_some] at hx
  obtain ⟨k, hk, rfl⟩ := (mem_needs R (List.getElem_mem ha)).mp hx
  have hkk := N1_mem R (List.getElem_mem ha) hk
  refine ⟨pos_lt hkk, ?_⟩
  rw [keyAt_pos hkk, show keyAt rows a = rows[a].1 by simp [keyAt, keysL, ha]]
  exact N1_reach R (List.getElem_mem ha) hk
theorem mem_wreach {o : Nat} (ho : o < count) {x : Nat} : x ∈ wreach (partsOf rows) (needs1 (partsOf rows)) (nm o) ↔ x < rows.length ∧ Reach (lnx (aheadKv rows)) (2 * o) (keyAt rows x) := by
  have hc := R.cnt
  have hsp : 2 * o ∈ keysL rows := R.spec _ ho
  unfold wreach
  rw [mem_reachL, spK_eq, placeP R (by omega)]
  have := reach_iff R (low1 R) (up1 R) hsp (a := x)
  unfold posK at this
  rw [this]
  unfold partsOf
  rw [List.length_map]
  exact ⟨fun h => h.2, fun h => ⟨h.1, h⟩⟩
end
theorem wsteps_mem {parts : List Part} {nl : List (List Nat)} {own : List Nat} {x : Nat} : ∀ (ws : List Str) (F : List Nat), x ∈ ws.foldl (wstep parts nl own) F ↔ x ∈ F ∨ (x ∉ own ∧ ∃ o ∈ ws, x ∈ wreach parts nl o)
  | [], F => by simp
  | o :: ws, F => by
    rw [List.foldl_cons, wsteps_mem ws]
    have : x ∈ wstep parts nl own F o ↔ x ∈ F ∨ (x ∉ own ∧ x ∈ wreach parts nl o) := by
      unfold wstep
      rw [List.mem_append, List.mem_filter]
      constructor
      · rintro (q | ⟨h1, h2⟩)
        · exact .inl q
        · simp at h2; exact .inr ⟨h2.1, h1⟩
      · rintro (q | ⟨h1, h2⟩)
        · exact .inl q
        · by_cases hF : x ∈ F
          · exact .inl hF
          · exact .inr ⟨h2, by simp [h1, hF]⟩
    rw [this]
    constructor
    · rintro ((q | ⟨h1, h2⟩) | ⟨h1, o', ho', h2⟩)
      · exact .inl q
      · exact .inr ⟨h1, o, List.mem_cons_self .., h2⟩
      · exact .inr ⟨h1, o', List.mem_cons_of_mem _ ho', h2⟩
    · rintro (q | ⟨h1, o', ho', h2⟩)
      · exact .inl (.inl q)
      · rcases List.mem_cons.mp ho' with rfl | ho'
        · exact .inl (.inr ⟨h1, h2⟩)
        · exact .inr ⟨h1, o', ho', h2⟩
section
variable {count : Nat} {rows : List Row} (R : RowsOk count rows)
include R
theorem mem_needs2 {a : Nat} (ha : a < rows.length) {x : Nat} : x ∈ ((needs2 (partsOf rows))[a]?).getD [] ↔ x ∈ ((needs1 (partsOf rows))[a]?).getD [] ∨ ∃ o ∈ wholesL rows[a].2, x < rows.length ∧ Reach (lnx (aheadKv rows)) (2 * o) (keyAt rows x) := by
  have hp : a < (partsOf rows).length := by unfold partsOf; rw [List.length_map]; exact ha
  have h1 : a < (needs1 (partsOf rows)).length := by unfold needs1; rw [List.length_map]; exact hp
  rw [needs2_at hp h1, Option.getD_some, List.getElem?_eq_getElem h1, Option.getD_some, List.mem_append]
  unfold wholeOf
  rw [wsteps_mem]
  have hw : (partsOf rows)[a].whole = (wholesL rows[a].2).map nm := by
    have e : (partsOf rows)[a]? = some (partOf rows[a]) := by unfold partsOf; rw [List.getElem?_map, List.getElem?_eq_getElem ha]; rfl
    rw [(List.getElem?_eq_some_iff.mp e).2]; rfl
  rw [hw]
  have hm : ∀ o ∈ wholesL rows[a].2, (x ∈ wreach (partsOf rows) (needs1 (partsOf rows)) (nm o) ↔ x < rows.length ∧ Reach (lnx (aheadKv rows)) (2 * o) (keyAt rows x)) := fun o ho =>
    mem_wreach R (told_lt R (List.getElem_mem ha) (wholesL_sub ho))
  constructor
  · rintro (q | q | ⟨h2, o', ho', h3⟩)
    · exact .inl q
    · cases q
    · obtain ⟨o, ho, rfl⟩ := List.mem_map.mp ho'
      exact .inr ⟨o, ho, (hm o ho).mp h3⟩
  · rintro (q | ⟨o, ho, h3⟩)
    · exact .inl q
    · by_cases hx : x ∈ (needs1 (partsOf rows))[a]
      · exact .inl hx
      · exact .inr (.inr ⟨hx, nm o, List.mem_map.mpr ⟨o, ho, rfl⟩, (hm o ho).mpr h3⟩)
theorem low2 (a : Nat) (ha : a < rows.length) : ∀ k ∈ N1 rows rows[a], posK rows k ∈ ((needs2 (partsOf rows))[a]?).getD [] := fun k hk => (mem_needs2 R ha).mpr (.inl (low1 R a ha k hk))
theorem whole_step {r : Row} (hr : r ∈ rows) {o : Nat} (ho : o ∈ wholesL r.2) : Reach (lnx (aheadKv rows)) r.1 (2 * o) :=
  .step .refl ((mem_lnx R hr).mpr ⟨R.spec _ (told_lt R hr (wholesL_sub ho)), .inl ((mem_aheadL R).mpr (.inl ⟨o, wholesL_sub ho, rfl⟩))⟩)
theorem up2 (a : Nat) (ha : a < rows.length) : ∀ x ∈ ((needs2 (partsOf rows))[a]?).getD [], x < rows.length ∧ Reach (lnx (aheadKv rows)) (keyAt rows a) (keyAt rows x) := fun x hx => by
  rcases (mem_needs2 R ha).mp hx with q | ⟨o, ho, hx, h⟩
  · exact up1 R a ha x q
  · refine ⟨hx, reach_trans ?_ h⟩
    rw [show keyAt rows a = rows[a].1 by simp [keyAt, keysL, ha]]
    exact whole_step R (List.getElem_mem ha) ho
theorem mem_wholeL {r : Row} (hr : r ∈ rows) {k : Nat} : k ∈ wholeL rows r ↔ k ∈ aheadL rows r ∨ ∃ o ∈ wholesL r.2, Reach (lnx (aheadKv rows)) (2 * o) k := by
  unfold wholeL
  rw [List.mem_append, mem_walkOf (wIn_wholes R hr)]
  constructor
  · rintro (q | ⟨b, hb, h⟩)
    · exact .inl q
    · obtain ⟨o, ho, rfl⟩ := List.mem_map.mp hb
      exact .inr ⟨o, ho, h⟩
  · rintro (q | ⟨o, ho, h⟩)
    · exact .inl q
    · exact .inr ⟨2 * o, List.mem_map.mpr ⟨o, ho, rfl⟩, h⟩
theorem wholeL_keys {r : Row} (hr : r ∈ rows) {k : Nat} (h : k ∈ wholeL rows r) : k ∈ keysL rows := by
  rcases (mem_wholeL R hr).mp h with q | ⟨o, ho, q⟩
  · exact N1_mem R hr (ahead_N1 R q)
  · exact lreach_keys R (R.spec _ (told_lt R hr (wholesL_sub ho))) q
/-- the code's needs are the law's -/
theorem needs2_whole {a : Nat} (ha : a < rows.length) {x : Nat} : x ∈ ((needs2 (partsOf rows))[a]?).getD [] ↔ x < rows.length ∧ keyAt rows x ∈ wholeL rows rows[a] := by
  have hr := List.getElem_mem ha
  rw [mem_needs2 R ha, needs1_at R ha, Option.getD_some, mem_needs R hr, mem_wholeL R hr]
  constructor
  · rintro (⟨k, hk, rfl⟩ | ⟨o, ho, hx, h⟩)
    · have hkk := N1_mem R hr hk
      refine ⟨pos_lt hkk, ?_⟩
      rw [keyAt_pos hkk]
      rcases (mem_N1 R).mp hk with q | ⟨o, ho, h2, rfl⟩ | q
      · exact .inl ((mem_aheadL R).mpr (.inl q))
      · rcases ho with ho | ho
        · exact .inl ((mem_aheadL R).mpr (.inr (.inl ⟨o, ho, h2, rfl⟩)))
        · have hsp : 2 * o ∈ keysL rows := R.spec _ (told_lt R hr (wholesL_sub ho))
          obtain ⟨r2, hr2, hr2k, _⟩ := row_of R hsp
          refine .inr ⟨o, ho, ?_⟩
          have h0 : Reach (lnx (aheadKv rows)) r2.1 r2.1 := .refl
          have := Reach.step h0 ((mem_lnx R hr2).mpr ⟨h2, .inr (by rw [hr2k]; omega)⟩)
          rwa [hr2k] at this
      · exact .inl ((mem_aheadL R).mpr (.inr (.inr q)))
    · exact ⟨hx, .inr ⟨o, ho, h⟩⟩
  · rintro ⟨hx, q | ⟨o, ho, h⟩⟩
    · exact .inl ⟨_, ahead_N1 R q, pos_keyAt R hx⟩
    · exact .inr ⟨o, ho, hx, h⟩
theorem mem_wanted {main : Nat} (hm : main < count) {k : Nat} : k ∈ wantedL rows main ↔ Reach (lnx (aheadKv rows)) (2 * main) k := by
  unfold wantedL
  rw [mem_walkOf (wIn_main R hm)]
  simp
end
end Mine
end

section
open PySem PySem.W PyProof.Rows
set_option linter.all false
set_option maxRecDepth 100000
namespace Mine

/-! the order -/
noncomputable def ordP (nl : List (List Nat)) (order : List Nat) (a : Nat) : Bool := decide ((((nl[a]?).getD []).filter fun x => !decide (x ∈ order)) = [])
noncomputable def ordGo (nl : List (List Nat)) : Nat → List Nat → List Nat → Option (List Nat)
  | 0, _, order => some order
  | m + 1, left, order => match left.find? (ordP nl order) with
    | none => none
    | some ch => ordGo nl m (left.filter fun a => a != ch) (order ++ [ch])
noncomputable def leftOf (parts : List Part) (main : Str) : List Nat := reachL (nxt parts (needs2 parts)) parts.length (placeOf parts (spK main))
noncomputable def ordOf (parts : List Part) (main : Str) : Option (List Nat) := ordGo (needs2 parts) (leftOf parts main).length (leftOf parts main) []

section
variable {count : Nat} {rows : List Row} (R : RowsOk count rows)
include R
theorem keyAt_inj {a b : Nat} (ha : a < rows.length) (hb : b < rows.length) (e : keyAt rows a = keyAt rows b) : a = b := by
  rw [← pos_keyAt R ha, ← pos_keyAt R hb, e]
theorem mem_left {main : Nat} (hm : main < count) {a : Nat} : a ∈ leftOf (partsOf rows) (nm main) ↔ a < rows.length ∧ keyAt rows a ∈ wantedL rows main := by
  have hc := R.cnt
  unfold leftOf
  rw [mem_reachL, spK_eq, placeP R (by omega), mem_wanted R hm]
  have := reach_iff R (low2 R) (up2 R) (R.spec _ hm) (a := a)
  unfold posK at this
  rw [this]
  unfold partsOf
  rw [List.length_map]
  exact ⟨fun h => h.2, fun h => ⟨h.1, h⟩⟩
theorem left_len {main : Nat} (hm : main < count) : (leftOf (partsOf rows) (nm main)).length = (wantedL rows main).length := by
  have h1 : ((leftOf (partsOf rows) (nm main)).map (keyAt rows)).Nodup := by
    unfold List.Nodup
    rw [List.pairwise_map]
    exact List.Pairwise.imp_of_mem (fun {a b} ha hb hne e => hne (keyAt_inj R ((mem_left R hm).mp ha).1 ((mem_left R hm).mp hb).1 e)) (reachL_nodup ..)
  have h2 : (wantedL rows main).Nodup := (walkGo_in _ _ _ (wIn_main R hm)).nd
  have h3 : ((leftOf (partsOf rows) (nm main)).map (keyAt rows)).Perm (wantedL rows main) := (List.perm_ext_iff_of_nodup h1 h2).mpr fun k => by
    rw [List.mem_map]
    constructor
    · rintro ⟨a, ha, rfl⟩
      exact ((mem_left R hm).mp ha).2
    · intro hk
      have hkk := lreach_keys R (R.spec _ hm) ((mem_wanted R hm).mp hk)
      exact ⟨posK rows k, (mem_left R hm).mpr ⟨pos_lt hkk, by rw [keyAt_pos hkk]; exact hk⟩, keyAt_pos hkk⟩
  have := h3.length_eq
  rwa [List.length_map] at this
theorem came_iff {order : List Nat} (ho : ∀ a ∈ order, a < rows.length) {a : Nat} (ha : a < rows.length) : keyAt rows a ∈ order.map (keyAt rows) ↔ a ∈ order := by
  rw [List.mem_map]
  constructor
  · rintro ⟨b, hb, e⟩
    rw [← keyAt_inj R (ho b hb) ha e]; exact hb
  · exact fun h => ⟨a, h, rfl⟩
theorem ready_eq {main : Nat} (hm : main < count) {left order : List Nat} (ho : ∀ a ∈ order, a < rows.length) (hl : left = (leftOf (partsOf rows) (nm main)).filter fun a => !decide (a ∈ order)) :
    readyL rows (wantedL rows main) (order.map (keyAt rows)) = left.filter (ordP (needs2 (partsOf rows)) order) := by
  have e1 : leftOf (partsOf rows) (nm main) = (List.range rows.length).filter fun a => decide (keyAt rows a ∈ wantedL rows main) := by
    have hpl : (partsOf rows).length = rows.length := by unfold partsOf; rw [List.length_map]
    unfold leftOf reachL
    rw [hpl]
    refine List.filter_congr fun a ha => ?_
    have ha : a < rows.length := by simpa using ha
    refine decide_eq_decide.mpr ?_
    have := mem_left R hm (a := a)
    unfold leftOf at this
    rw [mem_reachL, hpl] at this
    exact ⟨fun h => (this.mp ⟨ha, h⟩).2, fun h => (this.mpr ⟨ha, h⟩).2⟩
  rw [hl, e1, List.filter_filter, List.filter_filter]
  unfold readyL
  refine List.filter_congr fun a ha => ?_
  have ha : a < rows.length := by simpa using ha
  have hc := came_iff R ho ha
  have hlk : (wholeKv rows).lookup (keyAt rows a) = some (wholeL rows rows[a]) := by
    rw [show keyAt rows a = rows[a].1 by simp [keyAt, keysL, ha]]
    exact look_map R.nd (List.getElem_mem ha)
  have hp : ((wholeL rows rows[a]).filter (fun x => !decide (x ∈ order.map (keyAt rows))) = []) ↔ ((((needs2 (partsOf rows))[a]?).getD []).filter (fun x => !decide (x ∈ order)) = []) := by
    rw [List.filter_eq_nil_iff, List.filter_eq_nil_iff]
    constructor
    · intro h x hx
      obtain ⟨h1, h2⟩ := (needs2_whole R ha).mp hx
      have := h _ h2
      simp only [Bool.not_eq_true', decide_eq_false_iff_not, Classical.not_not] at this ⊢
      exact (came_iff R ho h1).mp this
    · intro h k hk
      have hkk := wholeL_keys R (List.getElem_mem ha) hk
      have := h (posK rows k) ((needs2_whole R ha).mpr ⟨pos_lt hkk, by rw [keyAt_pos hkk]; exact hk⟩)
      simp only [Bool.not_eq_true', decide_eq_false_iff_not, Classical.not_not] at this ⊢
      have h2 := (came_iff R ho (pos_lt hkk)).mpr this
      rwa [keyAt_pos hkk] at h2
  unfold readyP ordP
  rw [hlk, Option.getD_some]
  rw [decide_eq_decide.mpr hp, decide_eq_decide.mpr hc]
  generalize decide (keyAt rows a ∈ wantedL rows main) = b1
  generalize decide (a ∈ order) = b2
  generalize decide (List.filter (fun x => !decide (x ∈ order)) ((needs2 (partsOf rows))[a]?.getD []) = []) = b3
  cases b1 <;> cases b2 <;> cases b3 <;> rfl
theorem ord_due {main : Nat} (hm : main < count) : ∀ (m : Nat) (left order : List Nat), (∀ a ∈ order, a < rows.length) → left = (leftOf (partsOf rows) (nm main)).filter (fun a => !decide (a ∈ order)) → left.length = m → m + order.length = (wantedL rows main).length →
    ordGo (needs2 (partsOf rows)) m left order = dueGo rows (wantedL rows main) m (order.map (keyAt rows)) order
  | 0, left, order, ho, hl, hlen, hw => rfl
  | m + 1, left, order, ho, hl, hlen, hw => by
    rw [ordGo, dueGo, if_pos (by rw [List.length_map]; omega), ready_eq R hm ho hl, ← List.head?_filter]
    cases e : left.filter (ordP (needs2 (partsOf rows)) order) with
    | nil => rfl
    | cons ch rest =>
      have hch : ch ∈ left := (List.mem_filter.mp (by rw [e]; exact List.mem_cons_self ..)).1
      have hch2 := List.mem_filter.mp (hl ▸ hch)
      have hchn := ((mem_left R hm).mp hch2.1).1
      have hnd : left.Nodup := by rw [hl]; exact (reachL_nodup ..).filter _
      have hl2 : left.filter (fun a => a != ch) = (leftOf (partsOf rows) (nm main)).filter (fun a => !decide (a ∈ order ++ [ch])) := by
        rw [hl, List.filter_filter]
        refine List.filter_congr fun a _ => ?_
        by_cases h1 : a = ch
        · subst h1; simp
        · by_cases h2 : a ∈ order <;> simp [h1, h2]
      have hlen2 : (left.filter (fun a => a != ch)).length = m := by
        have h1 : left.filter (fun a => a != ch) = left.erase ch := (List.Nodup.erase_eq_filter hnd ch).symm
        rw [h1, List.length_erase_of_mem hch]; omega
      have ih := ord_due hm m (left.filter fun a => a != ch) (order ++ [ch]) (fun a ha => by
        rcases List.mem_append.mp ha with q | q
        · exact ho a q
        · rw [List.mem_singleton.mp q]; exact hchn) hl2 hlen2 (by simp; omega)
      simp only [List.head?_cons]
      rw [ih, List.map_append]; rfl
theorem ordOf_due {main : Nat} (hm : main < count) : ordOf (partsOf rows) (nm main) = dueOf rows main := by
  unfold ordOf dueOf
  rw [left_len R hm]
  exact ord_due R hm _ _ [] (by simp) (by rw [List.filter_eq_self.mpr]; simp) (left_len R hm) (by simp)
end
end Mine
end

section
open PySem PySem.W PyProof.Rows
set_option linter.all false
set_option maxRecDepth 100000
namespace Mine

/-! the rows that the law builds -/
structure ClsOk (here count : Nat) (cls : List (Nat × Nat)) : Prop where
  told : ∀ e ∈ cls, e.1 < count ∧ e.1 ≠ here
  nd : (cls.map (·.1)).Nodup
theorem clsGo_ok {sc : List Int} {here count : Nat} {c0 : Int} (hc : 0 < count) : ∀ j, ClsOk here count (clsGo sc here count c0 j)
  | 0 => ⟨by simp [clsGo], by simp [clsGo]⟩
  | j + 1 => by
    have ih := clsGo_ok (sc := sc) (here := here) (c0 := c0) hc j
    rw [clsGo]
    split
    · exact ih
    · rename_i h
      have ho := tickN_lt (sc := sc) (c := c0 + 2 * j) (sides := count) hc
      refine ⟨fun e he => ?_, ?_⟩
      · rcases List.mem_append.mp he with q | q
        · exact ih.told e q
        · rw [List.mem_singleton.mp q]
          exact ⟨ho, fun q => h (.inl q)⟩
      · rw [List.map_append]
        refine List.nodup_append.mpr ⟨ih.nd, by simp, fun u hu v hv => ?_⟩
        simp at hv
        subst hv
        rintro rfl
        exact h (.inr hu)
structure TextInv (count h i : Nat) (rows : List Row) : Prop where
  nd : (rows.map (·.1)).Nodup
  lt : ∀ r ∈ rows, r.1 < 2 * h + i
  spec : ∀ j, 2 * j < 2 * h + i → 2 * j ∈ rows.map (·.1)
  cls : ∀ r ∈ rows, ClsOk (r.1 / 2) count r.2 ∧ r.2.length ≤ 3
theorem putRow_inv {sc : List Int} {count h s : Nat} {x : Int × List Row} (hc : 0 < count) (hs : s = 0 ∨ s = 1) (I : TextInv count h s x.2) : TextInv count h (s + 1) (putRow sc h s count x).2 := by
  have hcl := clsGo_ok (sc := sc) (here := h) (c0 := x.1 + 1) hc (tickN sc x.1 3)
  have hlen := clsGo_len sc h count (x.1 + 1) (tickN sc x.1 3)
  have h3 := tickN_lt (sc := sc) (c := x.1) (sides := 3) (by decide)
  have hmem : ∀ r, r ∈ (putRow sc h s count x).2 ↔ r ∈ x.2 ∨ r = (2 * h + s, clsGo sc h count (x.1 + 1) (tickN sc x.1 3)) := fun r => by
    unfold putRow
    simp only [List.mem_append, List.mem_singleton]
    constructor
    · rintro ((q | q) | q)
      · exact .inl (List.mem_of_mem_take q)
      · exact .inr q
      · exact .inl (List.mem_of_mem_drop q)
    · rintro (q | q)
      · rw [← List.take_append_drop (tickN sc (x.1 + 1 + 2 * tickN sc x.1 3) (x.2.length + 1)) x.2] at q
        rcases List.mem_append.mp q with q | q
        · exact .inl (.inl q)
        · exact .inr q
      · exact .inl (.inr q)
  have hper : ((putRow sc h s count x).2).Perm ((2 * h + s, clsGo sc h count (x.1 + 1) (tickN sc x.1 3)) :: x.2) := by
    unfold putRow
    simp only
    rw [List.append_assoc]
    refine (List.perm_middle).trans ?_
    show List.Perm (_ :: (List.take _ x.2 ++ List.drop _ x.2)) _
    rw [List.take_append_drop]
  refine ⟨?_, fun r hr => ?_, fun j hj => ?_, fun r hr => ?_⟩
  · have := (hper.map (·.1)).nodup_iff.mpr (by
      rw [List.map_cons, List.nodup_cons]
      refine ⟨fun hm => ?_, I.nd⟩
      obtain ⟨r, hr, he⟩ := List.mem_map.mp hm
      have := I.lt r hr
      simp only at he
      omega)
    exact this
  · rcases (hmem r).mp hr with q | q
    · have := I.lt r q; omega
    · rw [q]; show 2 * h + s < 2 * h + (s + 1); omega
  · rw [List.mem_map]
    by_cases hj2 : 2 * j < 2 * h + s
    · obtain ⟨r, hr, he⟩ := List.mem_map.mp (I.spec j hj2)
      exact ⟨r, (hmem r).mpr (.inl hr), he⟩
    · exact ⟨_, (hmem _).mpr (.inr rfl), by show 2 * h + s = 2 * j; omega⟩
  · rcases (hmem r).mp hr with q | q
    · exact I.cls r q
    · rw [q]
      refine ⟨?_, by simp only; omega⟩
      simp only
      rw [show (2 * h + s) / 2 = h by omega]
      exact hcl
theorem turn_inv {sc : List Int} {count h s : Nat} {x : Int × List Row} (hc : 0 < count) (hs : s = 0 ∨ s = 1) (I : TextInv count h s x.2) : TextInv count h (s + 1) (turn sc h s count x).2 := by
  unfold turn
  split
  · rename_i h1
    split
    · refine ⟨I.nd, fun r hr => ?_, fun j hj => I.spec j (by omega), I.cls⟩
      have := I.lt r hr; omega
    · exact putRow_inv (x := (x.1 + 1, x.2)) hc hs I
  · exact putRow_inv hc hs I
theorem turns_inv {sc : List Int} {count h : Nat} {x : Int × List Row} (hc : 0 < count) (I : TextInv count h 0 x.2) : TextInv count h 2 (turns sc h count 2 x).2 :=
  turn_inv hc (.inr rfl) (turn_inv hc (.inl rfl) I)
theorem textGo_inv {sc : List Int} {count : Nat} {x : Int × List Row} (hc : 0 < count) (hx : x.2 = []) : ∀ n, TextInv count n 0 (textGo sc count n x).2
  | 0 => by
    rw [textGo, hx]
    exact ⟨by simp, by simp, fun j hj => absurd hj (by omega), by simp⟩
  | n + 1 => by
    rw [textGo]
    have I := turns_inv (sc := sc) (count := count) hc (textGo_inv (sc := sc) (x := x) hc hx n)
    refine ⟨I.nd, fun r hr => ?_, fun j hj => I.spec j (by omega), I.cls⟩
    have := I.lt r hr; omega
theorem rowsOk {sc : List Int} {count : Nat} {c : Int} (hc : 0 < count) (hc4 : count ≤ 4) : RowsOk count (textGo sc count count (c, [])).2 := by
  have I := textGo_inv (sc := sc) (x := (c, [])) hc rfl count
  have hb := textGo_b (sc := sc) (count := count) (x := (c, [])) count
  refine ⟨I.nd, fun r hr => ?_, fun i hi => I.spec i (by omega), fun r hr e he => (I.cls r hr).1.told e he, fun r hr => (I.cls r hr).1.nd, fun r hr => ?_, ?_, hc4⟩
  · have := I.lt r hr; omega
  · have := (I.cls r hr).2; omega
  · simp only [List.length_nil] at hb; omega

/-! the part of a row -/
theorem nm_text : ∀ i : Nat, i < 10 → nm i ≠ "text_io" := by decide
section
variable {here : Nat} {cls : List (Nat × Nat)} (hh : here < 4) (H : ∀ e ∈ cls, e.1 < 4 ∧ e.1 ≠ here)
include hh H
theorem with_told : withsOf (ctxOf here cls) (nm here) = (toldL cls).map nm := by
  have e : toldBy "with" (ctxOf here cls) = cls.flatMap fun e => [("text_io" : Str), nm e.1] := by
    unfold toldBy ctxOf
    rw [List.flatMap_assoc]
    congr 1
    funext e
    unfold clOf
    have d1 : ¬ (("elaborate_all" : Str) = "with") := by decide
    have d2 : ¬ (("elaborate" : Str) = "with") := by decide
    split <;> (try split) <;> (try split) <;> simp [told1, d1, d2]
  unfold withsOf
  rw [e]
  induction cls with
  | nil => rfl
  | cons x cls ih =>
    have hx := H x (List.mem_cons_self ..)
    have h1 : nm x.1 ≠ "text_io" := nm_text x.1 (by omega)
    have h2 : nm x.1 ≠ nm here := fun q => hx.2 (nm_inj _ (by omega) _ (by omega) q)
    have ih' := ih (fun e he => H e (List.mem_cons_of_mem _ he)) (by
      unfold toldBy ctxOf
      rw [List.flatMap_assoc]
      congr 1
      funext e
      unfold clOf
      have d1 : ¬ (("elaborate_all" : Str) = "with") := by decide
      have d2 : ¬ (("elaborate" : Str) = "with") := by decide
      split <;> (try split) <;> (try split) <;> simp [told1, d1, d2])
    rw [List.flatMap_cons, List.filter_append, ih']
    have : ([("text_io" : Str), nm x.1].filter fun n : Str => n != ("text_io" : Str) && (n != nm here && true)) = [nm x.1] := by
      simp [h1, h2]
    rw [this]; rfl
theorem want_firsts : wantsOf "elaborate" (ctxOf here cls) (nm here) = (firstsL cls).map nm := by
  have e : toldBy "elaborate" (ctxOf here cls) = (firstsL cls).map nm := by
    unfold toldBy ctxOf firstsL
    rw [List.flatMap_assoc]
    clear H
    induction cls with
    | nil => rfl
    | cons x cls ih =>
      rw [List.flatMap_cons, ih, List.filter_cons]
      have d1 : ¬ (("elaborate_all" : Str) = "elaborate") := by decide
      have d2 : ¬ (("elaborate" : Str) = "with") := by decide
      unfold clOf
      by_cases h1 : x.2 = 1
      · have h0 : ¬ (x.2 = 0 ∨ x.2 = 4) := by omega
        rw [if_neg h0, if_pos h1]; simp [told1, d1, d2, h1]
      · by_cases h0 : x.2 = 0 ∨ x.2 = 4
        · rw [if_pos h0]; simp [told1, d1, d2, h1]
        · rw [if_neg h0, if_neg h1]
          split <;> simp [told1, d1, d2, h1]
  unfold wantsOf
  rw [e, with_told hh H]
  refine List.filter_eq_self.mpr fun n hn => ?_
  obtain ⟨o, ho, rfl⟩ := List.mem_map.mp hn
  rw [inStrs_iff]
  exact decide_eq_true (List.mem_map.mpr ⟨o, firstsL_sub ho, rfl⟩)
theorem want_wholes : wantsOf "elaborate_all" (ctxOf here cls) (nm here) = (wholesL cls).map nm := by
  have ht : ∀ n, inStrs (withsOf (ctxOf here cls) (nm here)) n = decide (n ∈ (toldL cls).map nm) := fun n => by rw [with_told hh H, inStrs_iff]
  unfold wantsOf
  rw [List.filter_congr fun n _ => ht n]
  have hn1 : ("text_io" : Str) ∉ (toldL cls).map nm := fun q => by
    obtain ⟨o, ho, e⟩ := List.mem_map.mp q
    obtain ⟨x, hx, rfl⟩ := List.mem_map.mp ho
    exact nm_text x.1 (by have := (H x hx).1; omega) e
  have hn2 : nm here ∉ (toldL cls).map nm := fun q => by
    obtain ⟨o, ho, e⟩ := List.mem_map.mp q
    obtain ⟨x, hx, rfl⟩ := List.mem_map.mp ho
    have := H x hx
    exact this.2 (nm_inj _ (by omega) _ (by omega) e)
  generalize hT : (toldL cls).map nm = T at hn1 hn2
  have hsub : ∀ e ∈ cls, nm e.1 ∈ T := fun e he => by rw [← hT]; exact List.mem_map.mpr ⟨e.1, List.mem_map.mpr ⟨e, he, rfl⟩, rfl⟩
  clear hT ht H
  unfold toldBy ctxOf wholesL
  rw [List.flatMap_assoc]
  induction cls with
  | nil => rfl
  | cons x cls ih =>
    have hx := hsub x (List.mem_cons_self ..)
    rw [List.flatMap_cons, List.filter_append, ih fun e he => hsub e (List.mem_cons_of_mem _ he), List.filter_cons]
    have d1 : ¬ (("elaborate" : Str) = "elaborate_all") := by decide
    have d2 : ¬ (("elaborate_all" : Str) = "with") := by decide
    unfold clOf
    by_cases h0 : x.2 = 0 ∨ x.2 = 4
    · have hd : decide (x.2 = 0 ∨ x.2 = 4) = true := decide_eq_true h0
      rw [if_pos h0, hd]
      simp [told1, d2, hx]
    · have hd : decide (x.2 = 0 ∨ x.2 = 4) = false := decide_eq_false h0
      rw [if_neg h0, hd]
      by_cases h1 : x.2 = 1
      · rw [if_pos h1]; simp [told1, d1, d2]
      · rw [if_neg h1]
        split <;> simp [told1, d2, hn1, hn2]
end
theorem ctx_ok {here : Nat} {cls : List (Nat × Nat)} (hl : cls.length ≤ 10) : CtxOk (ctxOf here cls) where
  len := fun w => by
    have h1 : ∀ cl : CL, (∃ e, cl ∈ clOf here e) → (told1 w cl).length ≤ 2 := fun cl ⟨e, hcl⟩ => by
      unfold clOf at hcl
      rcases List.mem_cons.mp hcl with rfl | hcl
      · simp only [told1]; split <;> simp
      · split at hcl
        · rw [List.mem_singleton.mp hcl]; simp only [told1]; split <;> simp
        · split at hcl
          · rw [List.mem_singleton.mp hcl]; simp only [told1]; split <;> simp
          · split at hcl
            · rw [List.mem_singleton.mp hcl]; simp only [told1]; split <;> simp
            · cases hcl
    have h2 : ∀ ctx : List CL, (∀ cl ∈ ctx, (told1 w cl).length ≤ 2) → (toldBy w ctx).length ≤ 2 * ctx.length := by
      intro ctx
      induction ctx with
      | nil => intro _; simp [toldBy]
      | cons x ctx ih =>
        intro h
        have := ih fun cl hc => h cl (List.mem_cons_of_mem _ hc)
        have h3 := h x (List.mem_cons_self ..)
        show (told1 w x ++ toldBy w ctx).length ≤ _
        rw [List.length_append, List.length_cons]; omega
    have h3 := h2 (ctxOf here cls) fun cl hc => by
      obtain ⟨e, _, he⟩ := List.mem_flatMap.mp hc
      exact h1 cl ⟨e, he⟩
    have h4 := ctxOf_len here cls
    omega
  each := fun cl hc => by
    obtain ⟨e, _, he⟩ := List.mem_flatMap.mp hc
    unfold clOf at he
    rcases List.mem_cons.mp he with rfl | he
    · simp
    · split at he
      · rw [List.mem_singleton.mp he]; simp
      · split at he
        · rw [List.mem_singleton.mp he]; simp
        · split at he
          · rw [List.mem_singleton.mp he]; simp
          · cases he
section
variable {count : Nat} {rows : List Row} (R : RowsOk count rows) {r : Row} (hr : r ∈ rows)
include R hr
theorem part_eq : partD (nm (r.1 / 2)) (kindS (r.1 % 2) == "packbody") (withsOf (ctxOf (r.1 / 2) r.2) (nm (r.1 / 2))) (wantsOf "elaborate" (ctxOf (r.1 / 2) r.2) (nm (r.1 / 2))) (wantsOf "elaborate_all" (ctxOf (r.1 / 2) r.2) (nm (r.1 / 2))) = (partOf r).enc := by
  have hk := key_lt R (List.mem_map.mpr ⟨r, hr, rfl⟩)
  have hc := R.cnt
  have H : ∀ e ∈ r.2, e.1 < 4 ∧ e.1 ≠ r.1 / 2 := fun e he => by have := R.told r hr e he; omega
  rw [with_told (by omega) H, want_firsts (by omega) H, want_wholes (by omega) H]
  have hb : (kindS (r.1 % 2) == "packbody") = decide (r.1 % 2 = 1) := by
    rcases Nat.mod_two_eq_zero_or_one r.1 with h | h <;> rw [h] <;> rfl
  rw [hb]; rfl
end
end Mine
end

section
open PySem PySem.W PyProof.Rows
set_option linter.all false
set_option maxRecDepth 100000
namespace Mine
variable {g : Cx} {k : Nat} {env : Env} {B Z Z' Z'' : Zm} {ad : Str → Addr} {ρ : Rho} {c c' c'' c1 c2 c3 : Int} {h h' h'' : Heap} {e l r : Expr} {d d1 d2 : D} {p p1 p2 p3 p4 p5 : Pos} {mg mb : Str → Option Value} {P : Bool} {N : Prop} {cf : Addr}
variable {K K' : Fl → Rho → Int → Prop} {ss : List Stmt} {st : Stmt}

/-! blocks that may raise the text's own fault (the class at cf) -/
/-- the fault has just been raised: the frame stands as it stood -/
noncomputable def Rz (g : Cx) (cf : Addr) (env : Env) (B Z : Zm) (c : Int) (s : Shared) (ex : Value) (s' : Shared) : Prop :=
  ∃ Z' ad' ρ', ZStep B Z Z' s s' ∧ SimA g env B Z' ad' ρ' c s'.heap ∧ ∃ e oe vs a0, ex = .ref e ∧ B e = none ∧ s'.heap.get? e = some oe ∧ oe.cls = .ref cf ∧ oe.data = .fields vs ∧ vs[1]? = some .none ∧ vs[0]? = some a0
theorem Rz.step {ex : Value} {s s1 s' : Shared} (z : ZStep B Z Z' s s1) (x : Rz g cf env B Z' c s1 ex s') : Rz g cf env B Z c s ex s' :=
  let ⟨Z2, ad', ρ', z2, r⟩ := x; ⟨Z2, ad', ρ', z.trans z2, r⟩

structure WSX (g : Cx) (cf : Addr) (P : Bool) (N : Prop) (k : Nat) (env : Env) (ρ : Rho) (c : Int) (ss : List Stmt) (K : Fl → Rho → Int → Prop) : Prop where
  go : ∀ A E B Z ad s, OkA k A → SimA g env B Z ad ρ c s.heap → (P = true → PassesOwn g.M A env E) → (N → ∀ ex s', Rz g cf env B Z c s ex s' → E ex s') → wpAny g.M A (execs ss env) (Post g env B Z K s) E s
structure WSX1 (g : Cx) (cf : Addr) (P : Bool) (N : Prop) (k : Nat) (env : Env) (ρ : Rho) (c : Int) (st : Stmt) (K : Fl → Rho → Int → Prop) : Prop where
  go : ∀ A E B Z ad s, OkA k A → SimA g env B Z ad ρ c s.heap → (P = true → PassesOwn g.M A env E) → (N → ∀ ex s', Rz g cf env B Z c s ex s' → E ex s') → wpAny g.M A (exec st env) (Post g env B Z K s) E s
theorem WSX.of (x : WS g k env ρ c ss K) : WSX g cf P N k env ρ c ss K := .mk fun A E B Z ad s ok sim _ _ => x.go A E B Z ad s ok sim
theorem WSX1.of (x : WS1 g k env ρ c st K) : WSX1 g cf P N k env ρ c st K := .mk fun A E B Z ad s ok sim _ _ => x.go A E B Z ad s ok sim
/-- the clock stands still -/
theorem WSX.cons (x : WSX1 g cf P N k env ρ c st (fun fl ρ' c' => match fl with | .next => c' = c ∧ WSX g cf P N k env ρ' c ss K | fl => K fl ρ' c')) : WSX g cf P N k env ρ c (st :: ss) K := .mk fun A E B Z ad s ok sim hp he =>
  wpAny_execs_cons (wpAny_mono (x.go A E B Z ad s ok sim hp he) (fun f s1 ⟨Z1, ad1, ρ1, c1, fl, z1, sim1, hf, hk⟩ => by
    cases f <;> cases fl <;> first
      | exact hf.elim
      | (obtain ⟨rfl, hk⟩ := hk
         exact wpAny_mono (hk.go A E B Z1 ad1 s1 ok sim1 hp fun n ex s' r => he n ex s' (r.step z1)) (fun f s2 p => p.step z1) fun _ _ e => e)
      | exact ⟨Z1, ad1, ρ1, c1, _, z1, sim1, hf, hk⟩) fun _ _ e => e)
theorem WSX.weaken {ρ' : Rho} (x : WSX g cf P N k env ρ c ss K) (q : Sub ρ ρ') : WSX g cf P N k env ρ' c ss K := .mk fun A E B Z ad s ok sim => x.go A E B Z ad s ok (sim.weaken q)
theorem WSX1.mono (x : WSX1 g cf P N k env ρ c st K) (h : ∀ fl ρ c, K fl ρ c → K' fl ρ c) : WSX1 g cf P N k env ρ c st K' := .mk fun A E B Z ad s ok sim hp he => wpAny_mono (x.go A E B Z ad s ok sim hp he) (fun _ _ p => p.mono h) fun _ _ e => e
theorem WSX.mid (ρm : Rho) (x : WSX1 g cf P N k env ρ c st (fun fl ρ' c' => match fl with | .next => Sub ρm ρ' ∧ c' = c | fl => K fl ρ' c')) (y : WSX g cf P N k env ρm c ss K) : WSX g cf P N k env ρ c (st :: ss) K :=
  .cons (x.mono fun fl ρ' c' h => by
    cases fl with
    | next => obtain ⟨h1, rfl⟩ := h; exact ⟨rfl, y.weaken h1⟩
    | _ => exact h)
theorem WSX1.ite {t : Expr} {body orelse : List Stmt} {b : Bool} (ht : WT g k env ρ c t b c) (h1 : b = true → WSX g cf P N k env ρ c body K) (h2 : b = false → WSX g cf P N k env ρ c orelse K) : WSX1 g cf P N k env ρ c (.If t body orelse p) K := .mk fun A E B Z ad s ok sim hp he =>
  wpAny_If (wpAny_mono (ht.go A E B Z ad s ok sim) (fun r s1 ⟨hr, Z1, x1⟩ => by
    subst hr
    cases r with
    | true => exact wpAny_mono ((h1 rfl).go A E B Z1 ad s1 ok (sim.ext x1) hp fun n ex s' r => he n ex s' (r.step (.ext x1 sim.bin))) (fun f s2 p => p.step (.ext x1 sim.bin)) fun _ _ e => e
    | false => exact wpAny_mono ((h2 rfl).go A E B Z1 ad s1 ok (sim.ext x1) hp fun n ex s' r => he n ex s' (r.step (.ext x1 sim.bin))) (fun f s2 p => p.step (.ext x1 sim.bin)) fun _ _ e => e) fun _ _ e => e)
/-- while, its body may raise -/
theorem WSX1.whileDo {test : Expr} {body : List Stmt} (J : Nat → Rho → Prop) (n0 : Nat) (h0 : ∃ ρ0, Sub ρ0 ρ ∧ J n0 ρ0)
    (hstep : ∀ n ρ1, J n ρ1 → ∃ b, WT g k env ρ1 c test b c ∧ (b = true → WSX g cf false N k env ρ1 c body (fun fl ρ3 c3 => match fl with
      | .next | .cont => ∃ m ρ4, m < n ∧ Sub ρ4 ρ3 ∧ J m ρ4 ∧ c3 = c
      | .brk => K .next ρ3 c3
      | .ret d => K (.ret d) ρ3 c3)) ∧ (b = false → K .next ρ1 c)) : WSX1 g cf true N k env ρ c (.While test body [] p) K := .mk fun A E B Z ad s ok sim hp he => by
  refine wpAny_While ?_
  obtain ⟨ρ0, hsub, hJ0⟩ := h0
  refine codeAny_whileLoop (fun n s' => ∃ Z2 ad ρ2, ZStep B Z Z2 s s' ∧ SimA g env B Z2 ad ρ2 c s'.heap ∧ J n ρ2) ?_ n0 ⟨Z, ad, ρ0, .refl, sim.weaken hsub, hJ0⟩
  rintro n s2 ⟨Z2, ad2, ρ2, z2, sim2, hJ⟩
  obtain ⟨b, ht, hb, hf⟩ := hstep n ρ2 hJ
  refine wpAny_mono (ht.go A _ B Z2 ad2 s2 ok sim2) (fun r s3 ⟨hr, Z3, x3⟩ => ?_) fun _ _ e => e
  subst hr
  have sim3 := sim2.ext x3
  have z3 := z2.trans (.ext x3 sim2.bin (s' := s3))
  cases r with
  | false => exact wpAny_execs_nil ⟨Z3, ad2, ρ2, c, .next, z3, sim3, trivial, hf rfl⟩
  | true =>
    simp only [if_true]
    refine wpAny_mono ((hb rfl).go A _ B Z3 ad2 s3 ok sim3 (fun h => by cases h) (fun n ex s' r => hp rfl ex s' (he n ex s' (r.step z3)))) (fun f s5 ⟨Z5, ad5, ρ5, c5, fl, z5, sim5, hfl, hK⟩ => ?_) fun _ _ e => e
    have again : (∃ m ρ4, m < n ∧ Sub ρ4 ρ5 ∧ J m ρ4 ∧ c5 = c) → ∃ m, m < n ∧ ∃ Z2 ad ρ2, ZStep B Z Z2 s s5 ∧ SimA g env B Z2 ad ρ2 c s5.heap ∧ J m ρ2 := fun ⟨m, ρ4, hm, hsb, hJ4, hc⟩ => ⟨m, hm, Z5, ad5, ρ4, z3.trans z5, hc ▸ sim5.weaken hsb, hJ4⟩
    have out : ∀ {f : Flow} {fl : Fl}, FlRep g Z5 f fl → K fl ρ5 c5 → Post g env B Z K s f s5 := fun hf hK => ⟨Z5, ad5, ρ5, c5, _, z3.trans z5, sim5, hf, hK⟩
    cases f <;> cases fl <;> first | exact hfl.elim | exact again hK | exact out (f := .next) (fl := .next) trivial hK | exact out (f := .ret _) hfl hK
end Mine
end

section
open PySem PySem.W PyProof.Rows
set_option linter.all false
set_option maxRecDepth 100000
namespace Mine
variable {g : Cx} {k : Nat} {env : Env} {B Z Z' Z'' : Zm} {ad : Str → Addr} {ρ : Rho} {c c' c'' c1 c2 c3 : Int} {h h' h'' : Heap} {e l r : Expr} {d d1 d2 : D} {p p1 p2 p3 p4 p5 : Pos} {mg mb : Str → Option Value} {P : Bool} {N : Prop} {cf : Addr}
variable {K K' : Fl → Rho → Int → Prop} {ss : List Stmt} {st : Stmt}

/-- raise CheckFault(e1, e2) -/
noncomputable def RaiseOk (g : Cx) (cf : Addr) : Prop := ∀ {P : Bool} {N : Prop} {k : Nat} {env : Env} {ρ : Rho} {c : Int} {e1 e2 : Expr} {i : Int} {text : Str} {p p1 p2 : Pos} {K : Fl → Rho → Int → Prop}, N → env.kindOf "CheckFault" = some .globalImplicit →
  (starEach [e1, e2] env = [(false, eval e1 env), (false, eval e2 env)]) → WE g (k + 3) env ρ c e1 (.int i) c → WE g (k + 3) env ρ c e2 (.str text) c → WSX1 g cf P N (k + 3) env ρ c (.Raise (some (.Call (.Name "CheckFault" p1) [e1, e2] [] p2)) none p) K

theorem ring_of_call (P : Pg g mg mb) {nl : List (List Nat)} {left : List Nat} (S : Stuck nl left) (hl50 : left.length ≤ 50) (hnl : nl.length ≤ 50) (hle : ∀ l ∈ nl, l.length ≤ 200) : Calls g mg 1 "ring_of" [needsD nl, natsD left] c (natsD (ringOf nl left)) c :=
  P.ring_of.call (k := 0) P.G frame_ring_of rfl (body_ring_of P S hl50 hnl hle)
theorem ring_text_call (P : Pg g mg mb) {parts : List Part} (G : GoodParts parts) {ring : List Nat} (hr : ∀ a ∈ ring, a < parts.length) (hl : ring.length ≤ 50) : Calls g mg 1 "ring_text" [partsD parts, natsD ring] c (.str (Txt.join ", " (linesOf parts ring))) c :=
  P.ring_text.call (k := 0) P.G frame_ring_text rfl (body_ring_text G hr hl)

/-- what stands where nothing can come -/
theorem stuck_of {parts : List Part} (G : GoodParts parts) {main : Str} {left order : List Nat} (hl : left = (leftOf parts main).filter fun a => !decide (a ∈ order)) (hne : left ≠ []) (hf : left.find? (ordP (needs2 parts) order) = none) : Stuck (needs2 parts) left where
  ne := hne
  nd := by rw [hl]; exact (reachL_nodup ..).filter _
  lt := fun a ha => by
    rw [(good2 G).len]
    rw [hl] at ha
    exact (mem_reachL.mp (List.mem_filter.mp ha).1).1
  go := fun a ha => by
    have h1 := List.find?_eq_none.mp hf a ha
    unfold ordP at h1
    have h2 : ¬ ((((needs2 parts)[a]?).getD []).filter (fun x => !decide (x ∈ order)) = []) := by simpa using h1
    obtain ⟨x, hx⟩ := List.exists_mem_of_ne_nil _ h2
    obtain ⟨hx1, hx2⟩ := List.mem_filter.mp hx
    refine ⟨x, hx1, ?_⟩
    rw [hl] at ha ⊢
    obtain ⟨ha1, ha2⟩ := List.mem_filter.mp ha
    obtain ⟨han, har⟩ := mem_reachL.mp ha1
    have hxn : x ∈ nxt parts (needs2 parts) a := by unfold nxt; exact List.mem_append_left _ hx1
    exact List.mem_filter.mpr ⟨mem_reachL.mpr ⟨nxt_lt (good2 G) hxn, .step har hxn⟩, hx2⟩

theorem ring_text_len {parts : List Part} (G : GoodParts parts) {ring : List Nat} (hr : ∀ a ∈ ring, a < parts.length) (hl : ring.length ≤ 50) : (Txt.join ", " (linesOf parts ring)).length ≤ 1000000 := by
  have hll : ∀ x ∈ linesOf parts ring, x.length ≤ 200 := fun x hx => by
    obtain ⟨a, ha, rfl⟩ := List.mem_map.mp hx
    rw [List.getElem?_eq_getElem (hr a ha)]
    have := G.nmlen _ (List.getElem_mem (hr a ha))
    show (lineOf _).length ≤ 200
    unfold lineOf
    rw [len_app, len_app]
    have h1 : (" " : Str).length = 1 := rfl
    have h2 := sortS_len (parts[a]'(hr a ha)).body
    omega
  have hsum := sum_le hll
  have hln : (linesOf parts ring).length = ring.length := by simp [linesOf]
  have h1 : (Txt.join ", " (linesOf parts ring)).length ≤ ((linesOf parts ring).map (·.length)).sum + (linesOf parts ring).length * (", " : Str).length := by
    have h := StrLaws.join_length_le ", " (linesOf parts ring)
    rw [← StrLaws.glued_eq_join] at h
    exact h
  have h2 : (", " : Str).length = 2 := rfl
  rw [hln] at hsum
  rw [hln, h2] at h1
  omega
theorem binds_order : Binds 16 ["parts", "main"] := binds2 fun a b fd h1 h2 h3 => by
  obtain ⟨n, q, ps, bd, sc, gl, cl, df, kd, doc, pm, an, cd, ct, bl⟩ := fd
  cases h1; cases h2; cases h3
  rfl
theorem frame_order : Frame 16 ["parts", "main"] := ⟨binds_order, by decide, rfl, rfl, rfl, fun L x hx => by simp at hx; rcases hx with rfl | rfl <;> first | exact .inl rfl | exact .inr ⟨rfl, rfl⟩⟩

noncomputable def chosenOf (nl : List (List Nat)) (order left : List Nat) : Int := match left.find? (ordP nl order) with | some a => (a : Int) | none => -1

set_option maxHeartbeats 1000000 in
theorem body_order (P : Pg g mg mb) (hR : RaiseOk g cf) {parts : List Part} (G : GoodParts parts) {main : Str} (hm : spK main ∈ keysOf parts) (L a : Addr) (q : Str) (code : Value) :
    WSX g cf true (ordOf parts main = none) 6 (fenv (fnAt 16).2.2 L a q code) [fr "parts" (partsD parts), fr "main" (.str main)] c (fnAt 16).2.1 (fun fl _ c'' => c'' = c ∧ ∃ l, ordOf parts main = some l ∧ fl = .ret (natsD l)) := by
  have hsl : sizeLine = 16777216 := rfl
  have hlen := G.len
  have G2 := good2 G
  have hleft : ∀ a ∈ leftOf parts main, a < parts.length := fun a ha => (mem_reachL.mp ha).1
  have hll : (leftOf parts main).length ≤ parts.length := reachL_len ..
  let R : List Nat → List Nat → Rho := fun left order => [fr "left" (natsD left), ow "order" (natsD order), ow "done" (.dI (markD order)), fr "needs" (needsD (needs2 parts)), fr "parts" (partsD parts)]
  refine WSX.mid [fr "needs" (needsD (needs2 parts)), fr "parts" (partsD parts), fr "main" (.str main)] (.of (WS1.assign (.inl rfl) (WE.callC P.G (all_needs_call P G) (.cons (WE.name rfl) .nil) (by decide)) ⟨Sub.of ⟨rfl, rfl, rfl, trivial⟩, rfl⟩)) ?_
  refine WSX.mid [fr "left" (natsD (leftOf parts main)), fr "needs" (needsD (needs2 parts)), fr "parts" (partsD parts), fr "main" (.str main)] (.of (WS1.assign (.inl rfl) (WE.callC P.G (reached_call P G G2 hm) (.cons (WE.name rfl) (.cons (WE.name rfl) (.cons (WE.name rfl) .nil))) (by decide)) ⟨Sub.of ⟨rfl, rfl, rfl, rfl, trivial⟩, rfl⟩)) ?_
  refine WSX.mid [ow "done" (.dI (markD [])), fr "left" (natsD (leftOf parts main)), fr "needs" (needsD (needs2 parts)), fr "parts" (partsD parts)] (.of (WS1.assignO (.inr ⟨rfl, rfl⟩) (WO.dict P.G).1 ⟨Sub.of ⟨rfl, rfl, rfl, rfl, trivial⟩, rfl⟩)) ?_
  refine WSX.mid (R (leftOf parts main) []) (.of (WS1.assignO (.inl rfl) (WO.list .nil) ⟨Sub.of ⟨rfl, rfl, rfl, rfl, rfl, trivial⟩, rfl⟩)) ?_
  refine WSX.cons (WSX1.whileDo (fun m ρ => ∃ left order, ρ = R left order ∧ m = left.length ∧ left = (leftOf parts main).filter (fun a => !decide (a ∈ order)) ∧ (∀ a ∈ order, a < parts.length) ∧ order.Nodup ∧ ordGo (needs2 parts) left.length left order = ordOf parts main) (leftOf parts main).length
    ⟨_, fun _ _ h => h, _, [], rfl, rfl, by rw [List.filter_eq_self.mpr]; simp, by simp, .nil, rfl⟩ ?_)
  rintro m ρ1 ⟨left, order, rfl, rfl, hl, ho, hon, hr⟩
  have hls : ∀ a ∈ left, a ∈ leftOf parts main ∧ a ∉ order := fun a ha => by
    rw [hl] at ha
    have := List.mem_filter.mp ha
    exact ⟨this.1, by simpa using this.2⟩
  have hlnd : left.Nodup := by rw [hl]; exact (reachL_nodup ..).filter _
  have hll2 : left.length ≤ parts.length := nodup_le hlnd fun a ha => hleft a (hls a ha).1
  have hol : order.length ≤ parts.length := nodup_le hon ho
  refine ⟨_, WCmp.toT (WCmp.cc (WE.toC (WE.name rfl)) (WO.toC (WO.list .nil)) (CmpCC.ne (ns := intsOf left) (ms := []))), fun hb => ?_, fun hb => ?_⟩
  · have hne : left ≠ [] := by rintro rfl; simp [intsOf] at hb
    refine WSX.mid (fr "chosen" (.int (-1)) :: R left order) (.of (WS1.assign (.inr ⟨rfl, rfl⟩) (WE.neg WE.int) ⟨Sub.of ⟨rfl, rfl, rfl, rfl, rfl, rfl, trivial⟩, rfl⟩)) ?_
    refine WSX.mid (fr "chosen" (.int (chosenOf (needs2 parts) order left)) :: R left order) (.of (WS1.forIn (WE.name rfl) (natsD_iters left) (fun i ρ c1 => c1 = c ∧ ρ = fr "chosen" (.int (-1)) :: R left order ∧ ∀ x ∈ left.take i, ordP (needs2 parts) order x = false) ⟨_, fun _ _ h => h, rfl, rfl, by simp⟩ ?_ ?_)) ?_
    · rintro i d1 ρ1 c1 hd ⟨rfl, rfl, hbefore⟩
      rw [List.getElem?_map, Option.map_eq_some_iff] at hd
      obtain ⟨x, hx, rfl⟩ := hd
      have hxm := List.mem_of_getElem? hx
      have hxn := hleft x (hls x hxm).1
      have hxg : x < (needs2 parts).length := by rw [G2.len]; exact hxn
      have hnd2 : ((needs2 parts).map natsD)[((x : Nat) : Int).toNat]? = some (natsD (needs2 parts)[x]) := by simp [hxg]
      have hnle := G2.each _ (List.getElem_mem hxg)
      have hoP : ordP (needs2 parts) order x = decide (intsOf (((needs2 parts)[x]).filter fun y => !decide (y ∈ order)) = []) := by
        unfold ordP; rw [List.getElem?_eq_getElem hxg, Option.getD_some]; simp [intsOf]
      refine ⟨_, WA.name (.inl rfl), ?_⟩
      refine WS.cons (WS1.ite (WCmp.toT (WCmp.cc (WO.toC (WO.compO [ow "done" (.dI (markD order))] [("done", L + 1)] (fun n : Nat => D.int n) (needs2 parts)[x] (fun y => !decide (y ∈ order)) (fun n : Nat => D.int n) (out := (intsOf (((needs2 parts)[x]).filter fun y => !decide (y ∈ order))).map D.int)
        (WE.sub (WE.toC (WE.name rfl)) (WE.name rfl) (SubV.list (by omega) (by omega) hnd2)) (natsD_iters _) (CompCx.of rfl ⟨⟨rfl, .inl rfl, rfl, .inl rfl, rfl⟩, trivial⟩ ⟨rfl, trivial⟩) (fun C n hn => ?_) (fun C n hn _ => WE.name rfl) (by omega) (by simp [intsOf, Function.comp_def]))) (WO.toC (WO.list .nil)) (CmpCC.eq (ms := [])))) (fun hb => ?_) fun hb => ?_)
      · show WTests _ _ _ _ _ _ (!decide (n ∈ order))
        rw [← markD_some]
        exact WTests.one (WCmp.toT (WCmp.vc (WE.name rfl) (WC.name rfl) CmpC.notIn_dI))
      · rw [← hoP] at hb
        have hch : chosenOf (needs2 parts) order left = x := by
          have hi : i < left.length := (List.getElem?_eq_some_iff.mp hx).1
          have : left.find? (ordP (needs2 parts) order) = some x := by
            rw [← List.take_append_drop i left, List.find?_append, List.find?_eq_none.mpr (by simpa using hbefore), List.drop_eq_getElem_cons hi, (List.getElem?_eq_some_iff.mp hx).2]
            simp [hb]
          unfold chosenOf; rw [this]
        refine WS.cons (WS1.assign (.inr ⟨rfl, rfl⟩) (WE.name rfl) (WS.cons (WS1.brk ?_)))
        rw [hch]
        exact ⟨Sub.of ⟨rfl, rfl, rfl, rfl, rfl, rfl, trivial⟩, rfl⟩
      · rw [← hoP] at hb
        refine .nil (.nil ⟨fr "chosen" (.int (-1)) :: R left order, ?_, rfl, rfl, fun y hy => ?_⟩)
        · exact Sub.of ⟨rfl, rfl, rfl, rfl, rfl, rfl, trivial⟩
        · rw [List.take_add_one, hx] at hy
          rcases List.mem_append.mp hy with q | q
          · exact hbefore y q
          · simp at q; rw [q]; exact hb
    · rintro ρ1 c1 ⟨rfl, rfl, hall⟩
      rw [List.length_map, List.take_length] at hall
      have : chosenOf (needs2 parts) order left = -1 := by
        unfold chosenOf; rw [List.find?_eq_none.mpr (by simpa using hall)]
      rw [this]
      exact ⟨fun _ _ h => h, rfl⟩
    cases hfind : left.find? (ordP (needs2 parts) order) with
    | none =>
      have hch : chosenOf (needs2 parts) order left = -1 := by unfold chosenOf; rw [hfind]
      rw [hch]
      have S := stuck_of G hl hne hfind
      have hnone : ordOf parts main = none := by
        rw [← hr]
        cases e : left.length with
        | zero => exact absurd (List.length_eq_zero_iff.mp e) hne
        | succ m => rw [ordGo, hfind]
      have hring := ringOf_inv S
      have hrl : (ringOf (needs2 parts) left).length ≤ 50 := by
        have := nodup_le (n := parts.length) hring.1 fun a ha => hleft a (hls a (hring.2 a ha)).1
        omega
      have hlin : (Txt.join ", " (linesOf parts (ringOf (needs2 parts) left))).length ≤ 1000000 := ring_text_len G (fun a ha => hleft a (hls a (hring.2 a ha)).1) hrl
      refine WSX.cons (WSX1.ite (WCmp.toT (WCmp.vv (WE.name rfl) WE.int CmpV.int_lt)) (fun _ => WSX.cons (hR hnone rfl rfl WE.int (WE.binop WE.str (WE.callC P.G (ring_text_call P G (fun a ha => hleft a (hls a (hring.2 a ha)).1) hrl) (.cons (WE.name rfl) (.cons (WE.callC P.G (ring_of_call P S (by omega) (by rw [G2.len]; omega) G2.each) (.cons (WE.name rfl) (.cons (WE.name rfl) .nil)) (by decide)) .nil)) (by decide)) (OpV.str_add ?_)))) fun h => by simp at h)
      have : ("units that need one another: " : Str).length = 29 := rfl
      omega
    | some ch =>
      have hch : chosenOf (needs2 parts) order left = ch := by unfold chosenOf; rw [hfind]
      rw [hch]
      have hcm := List.mem_of_find?_eq_some hfind
      have hcl := hls ch hcm
      have hcn := hleft ch hcl.1
      have hl2 : left.filter (fun a => a != ch) = (leftOf parts main).filter (fun a => !decide (a ∈ order ++ [ch])) := by
        rw [hl, List.filter_filter]
        refine List.filter_congr fun a _ => ?_
        by_cases h1 : a = ch
        · subst h1; simp
        · by_cases h2 : a ∈ order <;> simp [h1, h2]
      have hlen2 : (left.filter (fun a => a != ch)).length + 1 = left.length := by
        have h1 : left.filter (fun a => a != ch) = left.erase ch := (List.Nodup.erase_eq_filter hlnd ch).symm
        have h2 := List.length_erase_of_mem hcm
        have h3 := List.length_pos_of_mem hcm
        rw [h1]; omega
      have hr2 : ordGo (needs2 parts) (left.filter (fun a => a != ch)).length (left.filter fun a => a != ch) (order ++ [ch]) = ordOf parts main := by
        rw [← hr]
        conv => rhs; rw [← hlen2, ordGo, hfind]
      have ho2 : ∀ a ∈ order ++ [ch], a < parts.length := fun a ha => by
        rcases List.mem_append.mp ha with q | q
        · exact ho a q
        · rw [List.mem_singleton.mp q]; exact hcn
      have hon2 : (order ++ [ch]).Nodup := List.nodup_append.mpr ⟨hon, by simp, fun u hu v hv => by rw [List.mem_singleton.mp hv]; rintro rfl; exact hcl.2 hu⟩
      refine WSX.cons (WSX1.ite (WCmp.toT (WCmp.vv (WE.name rfl) WE.int CmpV.int_lt)) (fun h => ?_) fun _ => .of (.nil ⟨rfl, ?_⟩))
      · exfalso; simp at h; omega
      refine .of (WS.cons (WS1.put (d := .bool true) rfl WE.bool (WE.name rfl) (put_dI (markD_none hcl.2) (by simp [markD]; omega)) ?_))
      refine WS.cons (WS1.append rfl (WE.name rfl) ?_ (by rw [intsOf_len]; omega))
      refine WS.cons (WS1.assignCompO [fr "chosen" (.int ch)] [("chosen", L + 2)] (fun n : Nat => D.int n) left (fun a => a != ch) (fun n : Nat => D.int n) (out := (intsOf (left.filter fun a => a != ch)).map D.int) (WE.name rfl) (natsD_iters _) (CompCx.of rfl ⟨⟨rfl, .inl rfl, rfl, .inl rfl, rfl⟩, trivial⟩ ⟨rfl, trivial⟩)
        (fun C n hn => ?_) (fun C n hn _ => WE.name rfl) (by omega) (by simp [intsOf, Function.comp_def]) (.inl rfl) ?_)
      · have : ((n : Int) != (ch : Int)) = (n != ch) := by
          show (!((n : Int) == (ch : Int))) = (!(n == ch))
          rw [int_eq_nat]
          by_cases h : n = ch <;> simp [h]
        show WTests _ _ _ _ _ _ (n != ch)
        rw [← this]
        exact WTests.one (WCmp.toT (WCmp.vv (WE.name rfl) (WE.name rfl) CmpV.int_ne))
      · refine WS.freeze (x := "left") rfl (.nil ⟨(left.filter fun a => a != ch).length, R (left.filter fun a => a != ch) (order ++ [ch]), by omega, ?_, ⟨_, _, rfl, rfl, hl2, ho2, hon2, hr2⟩, rfl⟩)
        refine Sub.of ⟨rfl, ?_, ?_, rfl, rfl, trivial⟩
        · rw [natsD_snoc]; rfl
        · have : D.dI (markD (order ++ [ch])) = .dI (markD order ++ [((ch : Int), D.bool true)]) := by simp [markD]
          rw [this]; rfl
  · have hnil : left = [] := by
      cases left with
      | nil => rfl
      | cons x l => simp [intsOf] at hb
    subst hnil
    have e : ordOf parts main = some order := by rw [← hr]; rfl
    refine ⟨rfl, .of (WS.freeze (x := "order") rfl (WS.cons (WS1.ret (WE.name rfl) ⟨rfl, order, e, rfl⟩)))⟩
end Mine
end

section
open PySem PySem.W PyProof.Rows
set_option linter.all false
set_option maxRecDepth 100000
namespace Mine
variable {g : Cx} {k : Nat} {env : Env} {B Z Z' Z'' : Zm} {ad : Str → Addr} {ρ : Rho} {c c' c'' c1 c2 c3 : Int} {h h' h'' : Heap} {e l r : Expr} {d d1 d2 : D} {p p1 p2 p3 p4 p5 : Pos} {mg mb : Str → Option Value} {P : Bool} {N : Prop} {cf : Addr}
variable {K K' : Fl → Rho → Int → Prop} {ss : List Stmt} {st : Stmt}

/-- the frames around stand as they stood, the clock's list aside -/
theorem frames_keep {base : Heap} (hκ : ∃ o, h'.get? g.κ = some o ∧ ∀ vs, o.data ≠ .fields vs) (kp : ∀ b o, b ≠ g.κ → h.get? b = some o → h'.get? b = some o) : ∀ {l : List Env}, h.FunFrames base l → h'.FunFrames base l
  | [], _ => trivial
  | env :: rest, ⟨hk, ⟨L, o, hf, hn, ho, hd⟩, hr⟩ => by
    refine ⟨hk, ?_, frames_keep hκ kp hr⟩
    by_cases hL : L = g.κ
    · obtain ⟨o', ho', hd'⟩ := hκ
      exact ⟨L, o', hf, hn, hL ▸ ho', hd'⟩
    · exact ⟨L, o, hf, hn, kp L o hL ho, hd⟩

/-- the fault flies where a call stood -/
noncomputable def Caught (g : Cx) (cf : Addr) (base : Heap) (outer : List Env) (c : Int) (s0 : Shared) (ex : Value) (s' : Shared) : Prop :=
  (s'.os = s0.os ∧ s'.gens = s0.gens) ∧
  ∃ e a0, ex = .ref e ∧ Heap.FlyingW base outer e (.ref cf) a0 s'.heap ∧ (∃ t, s'.heap.IsList g.κ #[.int c t, .ref g.sa]) ∧
    ∀ b o, b ≠ g.κ → s0.heap.get? b = some o → (∀ vs, o.data ≠ .fields vs) → ∃ sl, s'.heap.get? b = some { o with slots := sl }

theorem order_callX (P : Pg g mg mb) (hR : RaiseOk g cf) {parts : List Part} (G : GoodParts parts) {main : Str} (hm : spK main ∈ keysOf parts) : ∃ fa fd, FnAt g mg "order_parts" fa fd ∧
    ∀ A E Z s vs outer base, OkA 7 A → A.frames = some outer → s.heap.FunFrames base outer → base.StaysIn s.heap → base.get? g.κ = none → Z.In s.heap → (∀ b o, g.h₀.get? b = some o → Z b = some o) → Clk g Z s.heap c → Z g.κ = none → RepL g Z vs [partsD parts, .str main] →
      (ordOf parts main = none → ∀ ex s', Caught g cf base outer c s ex s' → E ex s') →
      wpAny g.M A (call (.ref fa) vs) (fun v s' => ∃ l Z', ordOf parts main = some l ∧ Ext g Z Z' s s' c ∧ g.Rep Z' v (natsD l)) E s := by
  obtain ⟨fa, fd, F, N⟩ := P.order_parts
  refine ⟨fa, fd, F, fun A E Z s vs outer base ok hfr hff hst hbκ zi z0 ck hz rl hE => ?_⟩
  obtain ⟨o, ho, hdat⟩ := F.there
  have gr : ∀ b o, g.h₀.get? b = some o → s.heap.get? b = some o := fun b o e => zi b o (z0 b o e)
  have hlv : vs.length = (["parts", "main"] : List Str).length := rl.length
  have hsc := N.scope
  refine wpAny_call (codeAny_call_cells (o := o) (fd := fd) (body := (fnAt 16).2.1) (binds := (["parts", "main"] : List Str).zip vs) ok.room (gr _ _ ho) hdat (P.G.lim.keeps gr) (F.code.keeps gr) N.body (frame_order.bind vs hlv fd N.params N.def0 N.kwd0) F.clo ?_ ?_ (by rw [hsc]; exact frame_order.co) (by rw [hsc]; exact frame_order.gen) (by rw [hsc]; exact frame_order.kind))
  · rw [hsc]; exact fun y hy => frame_order.par _ y.1 (List.of_mem_zip hy).1
  · intro s1 x
    have he : callEnvC fd s.heap.objs.size fa = fenv (fnAt 16).2.2 s.heap.objs.size fa (fd.qualname ++ ".<locals>.") fd.code := by
      unfold callEnvC newEnv fenv
      rw [hsc, F.gl, F.bl]
    rw [he] at x ⊢
    obtain ⟨hs1, hs2⟩ : s1.os = s.os ∧ s1.gens = s.gens := by
      obtain ⟨h₁, tk, rfl, _⟩ := x.done
      exact ⟨rfl, rfl⟩
    have sim := start_sim frame_order.kind rfl frame_order.nodup zi z0 ck hz rl (frame_order.par _) x
    refine wpAny_mono ((body_order P hR G hm _ _ _ _).go (A.deeper _) _ _ Z _ s1 ok.deeper sim (fun _ => PassesOwn.leaving) (fun hn ex s2 ⟨Z2, ad2, ρ2, z2, sim2, e, oe, ws, a0, hex, hBe, hoe, hcls, hdt, h1, h0⟩ => ?_)) (fun f s2 ⟨Z2, ad2, ρ2, c2, fl, z2, sim2, hf, hc, l, hl, hfl⟩ => ?_) fun _ _ e => e
    · subst hex
      have kp : ∀ b o, b ≠ g.κ → s.heap.get? b = some o → s2.heap.get? b = some o := fun b o hb e => sim2.bin b o (by rw [if_neg hb]; exact e)
      obtain ⟨t, il, _⟩ := sim2.clk
      have hκ2 : ∃ o, s2.heap.get? g.κ = some o ∧ ∀ vs, o.data ≠ .fields vs := by
        obtain ⟨o, ho, _, n, hd⟩ := il
        exact ⟨o, ho, fun vs q => by rw [hd] at q; cases q⟩
      have hbs : base.StaysIn s2.heap := fun b o e => kp b o (fun q => by rw [q, hbκ] at e; cases e) (hst b o e)
      have hLn : base.get? s.heap.objs.size = none := hst.fresh
      have hff2 : s2.heap.FunFrames base (fenv (fnAt 16).2.2 s.heap.objs.size fa (fd.qualname ++ ".<locals>.") fd.code :: outer) := by
        obtain ⟨m, oL, es, ep, hoL, hdL, _⟩ := sim2.ns
        exact ⟨by rw [show (fenv (fnAt 16).2.2 s.heap.objs.size fa (fd.qualname ++ ".<locals>.") fd.code).scope.kind = .function from frame_order.kind]; decide, ⟨_, oL, rfl, hLn, hoL, fun vs q => by rw [hdL] at q; cases q⟩, frames_keep hκ2 kp hff⟩
      have hbe : base.get? e = none := by
        cases q : base.get? e with
        | none => rfl
        | some ob =>
          exfalso
          have h1 := hst e ob q
          have h2 : e ≠ g.κ := fun r => by rw [r, hbκ] at q; cases q
          have h3 : (if e = g.κ then none else s.heap.get? e) = none := hBe
          rw [if_neg h2, h1] at h3; cases h3
      refine wpAny_leaving_firstW (Around.frames_deeper hfr) hff2 rfl hoe hbs hbe hdt h1 h0 fun h' hL => ?_
      obtain ⟨k1, ⟨_, _, k2⟩, k3, k4⟩ := hL
      refine hE hn _ _ ⟨⟨z2.os.trans hs1, z2.gs.trans hs2⟩, e, a0, rfl, ⟨k1, hbe, k2, ?_⟩, ?_, fun b o hb e hnf => k4 b o (kp b o hb e) hnf⟩
      · rw [← hcls]; exact k3
      · obtain ⟨o, ho, hc, n, hd⟩ := il
        obtain ⟨sl, hs⟩ := k4 g.κ o ho fun vs q => by rw [hd] at q; cases q
        exact ⟨t, _, hs, hc, n, hd⟩
    · subst hc hfl
      have x2 := end_ext z2 hs1 hs2 sim2 hz
      cases f <;> first | exact hf.elim | exact ⟨l, Z2, hl, x2, hf⟩
end Mine
end

section
open PySem PySem.W PyProof.Rows
set_option linter.all false
set_option maxRecDepth 100000
namespace Mine

/-! an own fault class under an own fault class, with an __init__ of its own -/
/-- what the class' line of bases tells -/
structure Tail (bm : List Value) : Prop where
  hasB : bm.contains (.type "Exception") = true
  hasBase : bm.contains (.type "BaseException") = true
  noAttr : bm.contains (.type "AttributeError") = false
  noName : bm.contains (.type "NameError") = false

section
variable {prog : Program} {w : World} {A : Around} {E : Value → Shared → Prop} {h : Heap} {gs : Array GenState} {d : Drawn} {t : Nat} {os : OsState}
variable {nm q : Str} {C N : Addr} {bs bm : List Value} {hdct : Bool} {sn : List Str} {sub : List Value} {ab : Bool} {col : Option Bool} {dd : Option Addr} {k0 k1 k2 k3 k5 : Option Value}

theorem fault_check_new (T : Tail bm) {M : Model} {rest : List Value} {Q : Unit → Shared → Prop} (hC : h.get? C = some (excClassObj nm q C N bs bm hdct sn sub ab col dd k0 k1 k2 k3 k5 "Exception.__new__"))
    (hq : Q () ⟨h, gs, d, t, os⟩) : wpAny M A (checkBuiltinCall "Exception.__new__" ⟨.ref C :: rest, []⟩) Q E ⟨h, gs, d, t, os⟩ := by
  have F := PySem.F.excBase_Exception
  have hcont : (Value.ref C :: bm).contains (.type "Exception") = true := by rw [List.contains_cons, T.hasB, Bool.or_true]
  have hstar := F.noStar
  simp only [checkBuiltinCall, F.newKind, F.newSplit, F.newRow]
  repeat (first | refine wpAny_loadPart_at hC ?_ | (refine wpAny_isSubtype_exc hC ?_; rw [hcont]) | refine wpAny_staticBase_exc hC ?_ | refine wpAny_madeBy_exc hC ?_ | simp only [bne_self_eq_false, Bool.false_eq_true, if_false] | wp_step)
  exact hq

theorem fault_new (T : Tail bm) {R : Result → Shared → Prop} {rest : List Value} (hC : h.get? C = some (excClassObj nm q C N bs bm hdct sn sub ab col dd k0 k1 k2 k3 k5 "Exception.__new__"))
    (hq : R (.ok (.ret (.ref (h.objs.size + 1)))) ⟨(h.push { cls := .type "tuple", data := .seq rest.toArray }).push
      { cls := .ref C, data := .fields #[.ref h.objs.size, .none, .none, .none, .bool false, .none] }, gs, d, t, os⟩) (hrest : rest.length ≤ sizeLine) :
    codeAny (model prog w) A (.builtin "Exception.__new__" ⟨.ref C :: rest, []⟩) R ⟨h, gs, d, t, os⟩ := by
  have F := PySem.F.excBase_Exception
  have hends := F.ends
  have hcB : (Value.ref C :: bm).contains (.type "Exception") = true := by rw [List.contains_cons, T.hasB, Bool.or_true]
  have hcA : (Value.ref C :: bm).contains (.type "AttributeError") = false := by rw [List.contains_cons, T.noAttr]; rfl
  have hcN : (Value.ref C :: bm).contains (.type "NameError") = false := by rw [List.contains_cons, T.noName]; rfl
  refine codeAny_builtinAt F.entry ?_
  unfold Builtin.«BaseException.__new__»
  refine PySem.wpAt_bind ?_
  show PySem.wpAt _ _ _ (stack >>= _) _ _ _
  refine PySem.wpAt_bind (PySem.wpAt_stack fun p below => PySem.wpAt_of_wpAny ?_)
  wp_walk
  refine PySem.wpAt_of_wpAny ?_
  rw [F.owner]
  repeat (first | with_reducible refine wpAny_madeHere_exc F.canon hC ?_ | with_reducible refine wpAny_loadPart_at hC ?_ | (with_reducible refine wpAny_isSubtype_exc hC ?_; first | rw [hcB] | rw [hcA] | rw [hcN]) | wp_step)
  show R _ _
  rw [Heap.size_push]
  exact hq

theorem fault_type_call (T : Tail bm) {mN : Str → Option Value} {rest : List Value} {fI : Addr} {oI : Obj} {Q : Fin → Shared → Prop}
    (hC : h.get? C = some (excClassObj nm q C N bs bm hdct sn sub ab col dd k0 k1 k2 k3 k5 "Exception.__new__")) (hn : h.Ns N mN) (hi : mN "__init__" = some (.ref fI))
    (hfI : h.get? fI = some oI) (hfc : oI.cls = .type "function")
    (hq : ∀ h' e, Heap.MadeExcOf h h' e (.ref C) rest →
      wpAny (model prog w) A (call (.ref fI) (.ref e :: rest)) (fun r s' => r = .none ∧ Q (.done (.ret (.ref e))) s') E ⟨h', gs, d, t, os⟩) (hrest : rest.length ≤ sizeLine) :
    wpAny (model prog w) A (Builtin.«type.__call__» ⟨.ref C :: rest, []⟩) Q E ⟨h, gs, d, t, os⟩ := by
  have F := PySem.F.excBase_Exception
  repeat (first | with_reducible refine wpAny_loadPart_at hC ?_ | with_reducible refine wpAny_madeBy_exc hC ?_ | wp_step)
  refine codeAny_call_builtin_code (Code.quiet_builtin _ F.quiet) (fault_check_new T hC ?_)
  refine fault_new T hC ?_ hrest
  show wpAny _ _ _ _ _ _
  have hC₁ := Heap.get?_push_of_some { cls := .ref C, data := .fields #[.ref h.objs.size, .none, .none, .none, .bool false, .none] }
    (Heap.get?_push_of_some { cls := .type "tuple", data := .seq rest.toArray } hC)
  have hfI₁ := Heap.get?_push_of_some { cls := .ref C, data := .fields #[.ref h.objs.size, .none, .none, .none, .bool false, .none] }
    (Heap.get?_push_of_some { cls := .type "tuple", data := .seq rest.toArray } hfI)
  have hn₁ : ((h.push { cls := .type "tuple", data := .seq rest.toArray }).push { cls := .ref C, data := .fields #[.ref h.objs.size, .none, .none, .none, .bool false, .none] }).Ns N mN :=
    let ⟨o, es, ep, e, r⟩ := hn; ⟨o, es, ep, Heap.get?_push_of_some _ (Heap.get?_push_of_some _ e), r⟩
  have hget : ((h.push { cls := .type "tuple", data := .seq rest.toArray }).push
      { cls := .ref C, data := .fields #[.ref h.objs.size, .none, .none, .none, .bool false, .none] }).get? (h.objs.size + 1) = some
      { cls := .ref C, data := .fields #[.ref h.objs.size, .none, .none, .none, .bool false, .none] } := by heap_get
  have hcC : (Value.ref C :: bm).contains (.ref C) = true := by simp
  unfold isInstance
  repeat (first | with_reducible refine wpAny_loadPart_at hget ?_ | (with_reducible refine wpAny_isSubtype_exc hC₁ ?_; rw [hcC]) | wp_step)
  show wpAny _ _ (typeLookup (.ref C) _) _ _ _
  rw [typeLookup_eq]
  refine wpAny_bind (wpAny_mroOf_exc hC₁ ?_)
  rw [lookupAlong_cons]
  refine wpAny_bind (wpAny_classOwn_exc hC₁ hn₁ ?_)
  rw [hi]
  refine wpAny_pure ?_
  refine wpAny_holding (wpAny_bind ?_)
  unfold bindSpecial
  refine wpAny_bind (wpAny_typeOf (T := "function") ⟨_, hfI₁, hfc⟩ ?_)
  rw [if_pos (by decide)]
  refine wpAny_pure (wpAny_bind (wpAny_mono (hq _ (h.objs.size + 1) ⟨fun b o hb => Heap.get?_push_of_some _ (Heap.get?_push_of_some _ hb), Heap.get?_none_of_le (Nat.le_succ _), h.objs.size, hget, Heap.get?_none_of_le (Nat.le_refl _), ?_⟩) (fun r s' hr => ?_) fun _ _ x => x))
  · exact Heap.get?_push_of_some _ (Heap.get?_push_at rfl rfl)
  · obtain ⟨rfl, hQ⟩ := hr
    wp_walk
    exact hQ

theorem fault_call (T : Tail bm) {mN : Str → Option Value} {rest : List Value} {fI : Addr} {oI : Obj} {Q : Value → Shared → Prop}
    (hC : h.get? C = some (excClassObj nm q C N bs bm hdct sn sub ab col dd k0 k1 k2 k3 k5 "Exception.__new__")) (hn : h.Ns N mN) (hi : mN "__init__" = some (.ref fI))
    (hfI : h.get? fI = some oI) (hfc : oI.cls = .type "function")
    (hq : ∀ h' e, Heap.MadeExcOf h h' e (.ref C) rest →
      wpAny (model prog w) (A.under (.builtin "type.__call__" ⟨.ref C :: rest, []⟩)) (call (.ref fI) (.ref e :: rest)) (fun r s' => r = .none ∧ Q (.ref e) s') E ⟨h', gs, d, t, os⟩) (hrest : rest.length ≤ sizeLine) :
    wpAny (model prog w) A (call (.ref C) rest) Q E ⟨h, gs, d, t, os⟩ := by
  have f1 := tc_lookup
  have f2 := tc_bind (.ref C)
  have hT : (⟨h, gs, d, t, os⟩ : Shared).TypeIs (.ref C) "type" := ⟨_, hC, rfl⟩
  refine wpAny_call (codeAny_of_tree ?_)
  show wpAny _ _ (callAny (.ref C) _) _ _ _
  repeat (any_goals (first | assumption | with_reducible refine wpAny_loadPart_at hC ?_ | wp_step))
  refine ⟨rfl, ?_⟩
  refine codeAny_call_builtin_at (Code.quiet_builtin _ (by decide +kernel)) entry_typeCall (wpAny_check_type_call_sub hC (fault_type_call T hC hn hi hfI hfc (fun h' e hm => ?_) hrest))
  exact hq h' e hm
end
end Mine
end

section
open PySem PySem.W PyProof.Rows
set_option linter.all false
set_option maxRecDepth 100000
namespace Mine

section
variable {M : Model} {A : Around} {E : Value → Shared → Prop} {env : Env}
variable {nm q : Str} {C N : Addr} {bs bm : List Value} {hdct : Bool} {sn : List Str} {sub : List Value} {ab : Bool} {col : Option Bool} {dd : Option Addr} {k0 k1 k2 k3 k5 : Option Value} {newId : String}

theorem fault_raiseStmt {s : Shared} {x : Sem Value} {Q : Flow → Shared → Prop} (hbase : bm.contains (.type "BaseException") = true) (hh : A.handled = none)
    (h : wpAny M A x (fun v s₁ => ∃ e oe vs, v = .ref e ∧ s₁.heap.get? C = some (excClassObj nm q C N bs bm hdct sn sub ab col dd k0 k1 k2 k3 k5 newId) ∧
      s₁.heap.get? e = some oe ∧ oe.cls = .ref C ∧ oe.data = .fields vs ∧ vs[1]? = some .none ∧ E (.ref e) s₁) E s) :
    wpAny M A (raiseStmt env (some x) none) Q E s := by
  have hcB : (Value.ref C :: bm).contains (.type "BaseException") = true := by rw [List.contains_cons, hbase, Bool.or_true]
  unfold raiseStmt
  refine wpAny_bind (wpAny_mono h (fun v s₁ h₁ => ?_) fun _ _ x => x)
  obtain ⟨e, oe, vs, rfl, hC, he, hc, hd, hv, hE⟩ := h₁
  obtain ⟨hp, g, d, tk, os⟩ := s₁
  obtain ⟨c0, d0, da0, sl0⟩ := oe
  simp only at hc hd
  subst hc hd
  repeat (first | with_reducible refine wpAny_loadPart_at he ?_ | with_reducible refine wpAny_loadPart_at hC ?_ | (with_reducible refine wpAny_isSubtype_exc hC ?_; rw [hcB]) | wp_step)
  rw [hv]
  refine wpAny_pure ?_
  rw [if_neg (by decide)]
  exact wpAny_pure (wpAny_raiseNew_none hh hE)
end

section
variable {prog : Program} {w : World} {A : Around} {E : Value → Shared → Prop} {s : Shared} {env : Env}
variable {nm q : Str} {C N : Addr} {bs bm : List Value} {hdct : Bool} {sn : List Str} {sub : List Value} {ab : Bool} {col : Option Bool} {dd : Option Addr} {k0 k1 k2 k3 k5 : Option Value}

theorem fault_Raise (T : Tail bm) {mN : Str → Option Value} {fI : Addr} {oI : Obj} {x : Str} {np cpos pos : Pos} {args : List Expr} {Q : Flow → Shared → Prop}
    (hh : A.handled = none) (hplain : (backTo cpos (starEach args env)).any (·.1) = false) (hi : mN "__init__" = some (.ref fI)) (hfc : oI.cls = .type "function")
    (h : wpAny (model prog w) A (eval (.Name x np) env) (fun f s₁ => f = .ref C ∧ wpAny (model prog w) A (evalArgs (.ref C) true (backTo cpos (starEach args env)) [])
      (fun a s₂ => a.kw = [] ∧ a.pos.length ≤ sizeLine ∧ s₂.heap.get? C = some (excClassObj nm q C N bs bm hdct sn sub ab col dd k0 k1 k2 k3 k5 "Exception.__new__") ∧ s₂.heap.Ns N mN ∧ s₂.heap.get? fI = some oI ∧
        ∀ h' e, Heap.MadeExcOf s₂.heap h' e (.ref C) a.pos → wpAny (model prog w) (A.under (.builtin "type.__call__" ⟨.ref C :: a.pos, []⟩)) (call (.ref fI) (.ref e :: a.pos)) (fun r s' => r = .none ∧
          s'.heap.get? C = some (excClassObj nm q C N bs bm hdct sn sub ab col dd k0 k1 k2 k3 k5 "Exception.__new__") ∧ (∃ oe vs, s'.heap.get? e = some oe ∧ oe.cls = .ref C ∧ oe.data = .fields vs ∧ vs[1]? = some .none) ∧ E (.ref e) s') E { s₂ with heap := h' }) E s₁) E s) :
    wpAny (model prog w) A (exec (.Raise (some (.Call (.Name x np) args [] cpos)) none pos) env) Q E s := by
  rw [arm_exec_Raise]
  first
    | refine wpAny_bind (wpAny_standAt (fault_raiseStmt (C := C) (nm := nm) (q := q) (N := N) (bs := bs) (bm := bm) (hdct := hdct) (sn := sn) (sub := sub) (ab := ab) (col := col) (dd := dd) (k0 := k0) (k1 := k1) (k2 := k2) (k3 := k3) (k5 := k5) (newId := "Exception.__new__") T.hasBase hh (wpAny_bind (wpAny_mono (wpAny_Call_ofName (wpAny_mono h (fun f s₁ h₁ => ?_) fun _ _ x => x)) (fun v s₃ h₃ => wpAny_bind (wpAny_standAt (wpAny_pure h₃))) fun _ _ x => x))))
    | (simp only [evalOpt, Option.map]; refine wpAny_bind (wpAny_standAt (fault_raiseStmt (C := C) (nm := nm) (q := q) (N := N) (bs := bs) (bm := bm) (hdct := hdct) (sn := sn) (sub := sub) (ab := ab) (col := col) (dd := dd) (k0 := k0) (k1 := k1) (k2 := k2) (k3 := k3) (k5 := k5) (newId := "Exception.__new__") T.hasBase hh (wpAny_bind (wpAny_mono (wpAny_Call_ofName (wpAny_mono h (fun f s₁ h₁ => ?_) fun _ _ x => x)) (fun v s₃ h₃ => wpAny_bind (wpAny_standAt (wpAny_pure h₃))) fun _ _ x => x)))))
    | (refine wpAny_bind (wpAny_standAt (fault_raiseStmt (C := C) (nm := nm) (q := q) (N := N) (bs := bs) (bm := bm) (hdct := hdct) (sn := sn) (sub := sub) (ab := ab) (col := col) (dd := dd) (k0 := k0) (k1 := k1) (k2 := k2) (k3 := k3) (k5 := k5) (newId := "Exception.__new__") T.hasBase hh ?_)); refine wpAny_bind (wpAny_mono (wpAny_Call_ofName (wpAny_mono h (fun f s₁ h₁ => ?_) fun _ _ x => x)) (fun v s₃ h₃ => wpAny_bind (wpAny_standAt (wpAny_pure h₃))) fun _ _ x => x))
  obtain ⟨rfl, h₁⟩ := h₁
  unfold callWith
  refine wpAny_bind (wpAny_holding (wpAny_mono h₁ (fun a s₂ h₂ => wpAny_bind (wpAny_standAt ?_)) fun _ _ x => x))
  obtain ⟨apos, akw⟩ := a
  obtain ⟨hkw, hlen, hC, hn, hfI, h₂⟩ := h₂
  obtain rfl : akw = [] := hkw
  obtain ⟨hp, g, d, tk, os⟩ := s₂
  simp only [hplain]
  refine wpAny_bind (wpAny_keeperOf_exc hC ?_)
  refine wpAny_bind (fault_call T hC hn hi hfI hfc (fun h' e hm => wpAny_mono (h₂ h' e hm) (fun r s' ⟨hr, hC', ⟨oe, vs, he, hc, hd, hv⟩, hE⟩ => ⟨hr, wpAny_bind (wpAny_holding (wpAny_point (wpAny_pure ?_)))⟩) fun _ _ x => x) hlen)
  exact ⟨e, oe, vs, rfl, hC', he, hc, hd, hv, hE⟩
end
end Mine
end

section
open PySem PySem.W PyProof.Rows
open Builtin Builtin.ObjectAttr
set_option linter.all false
set_option maxRecDepth 100000
namespace Mine

/-! a store into the fault's own dict -/
structure StoC (M : Model) (h : Heap) (C : Addr) (name : Str) (l : List Value) (cd : ClassData) : Prop where
  mro : Looks M h (mroOf (.ref C)) l
  obj : Looks M h (isSubtype (.ref C) (.type "object")) true
  pass : ∀ self, refuseLoop self "__setattr__" l = pure ()
  sa : Looks M h (typeLookup (.ref C) "__setattr__") (some (.builtin "object.__setattr__"))
  free : Looks M h (typeLookup (.ref C) name) none
  cls : Looks M h (classData C) cd
  hd : cd.hasDict = true

section
variable {prog : Program} {w : World} {A : Around} {E : Value → Shared → Prop} {h : Heap} {g : Array GenState} {d : Drawn} {t : Nat} {os : OsState}
variable {x C : Addr} {mA : Str → Option Value} {name : Str} {v : Value} {l : List Value} {cd : ClassData}

theorem fault_setattr {Q : Unit → Shared → Prop} {ns : List Str} (S : StoC (model prog w) h C name l cd) (I : h.Inst x C mA)
    (hq : ∀ h' tk', h'.Inst x C (fun y => if y = name then some v else mA y) →
      (∀ b o, b ≠ x → (∀ o₀ dx, h.get? x = some o₀ → o₀.dict = some dx → b ≠ dx) → h.get? b = some o → h'.get? b = some o) →
      (∀ o₀, h.get? x = some o₀ → ∃ o₁, h'.get? x = some o₁ ∧ o₁.cls = o₀.cls ∧ o₁.data = o₀.data ∧ o₁.slots = o₀.slots ∧ (∀ dx, o₀.dict = some dx → o₁.dict = some dx) ∧ (o₀.dict = none → o₁.dict = some h.objs.size)) → Q () ⟨h', g, d, tk', os⟩) (hw : Within mA ns) (hsz : ns.length ≤ sizeLine) :
    wpAny (model prog w) A (setAttr (.ref x) name v) Q E ⟨h, g, d, t, os⟩ := by
  have SF := PySem.F.store_object
  obtain ⟨o, hx, hc, hnc, hd⟩ := I
  have Ty : Looks (model prog w) h (typeOf (.ref x)) (.ref C) := (Looks.ld hx).andThen (by rw [hc]; exact .now)
  refine wpAny_bind (wpAny_mkText (wpAny_bind (wpAny_bind (wpAny_bind (Ty _ _ _ _ (fun _ _ e => e) (S.sa _ _ _ _ (fun _ _ e => e) (wpAny_holding ?_)))))))
  rw [SF.slot.bind]
  refine wpAny_bind (wpAny_pure (wpAny_bind (wpAny_call ?_)))
  refine codeAny_call_builtin SF.slot.plain SF.entry (@check_slot (model prog w) _ _ ⟨h, g, d, t + 1, os⟩ "object.__setattr__" "object" "__setattr__" (.ref x) [.str name t, v] [] _ SF.kind SF.split (Ty.andThen S.obj) (SF.args (.ref x) (.str name t) v) ?_)
  show wpAny _ _ (Builtin.«object.__setattr__» ⟨[.ref x, .str name t, v], []⟩) _ _ _
  rw [osa_eq, refuse_eq]
  refine wpAny_bind (wpAny_bind (Ty.here (wpAny_bind (S.mro.here ?_))))
  rw [S.pass]
  refine wpAny_pure (wpAny_bind (Ty.here (wpAny_bind (S.free.here (wpAny_bind (wpAny_pure ?_))))))
  dsimp only
  obtain ⟨oc, odi, oda, osl⟩ := o
  dsimp only at hc hnc hd
  subst hc
  have CL := S.cls
  have hhd := S.hd
  refine wpAny_bind (wpAny_pure (wpAny_bind (wpAny_bind (wpAny_loadPart hx (wpAny_bind (CL.here ?_))))))
  rw [hhd]
  rcases hd with ⟨hdn, hmA⟩ | ⟨dx, hdx, hne, hns⟩
  · subst hdn
    rw [if_neg (by simp [typeHasDict])]
    split
    · rename_i hcd
      cases hcd
    dsimp only
    rw [if_neg (by simp [typeHasDict])]
    split
    · exact absurd rfl (hnc _)
    · have hx₁ : (h.push { cls := .type "dict", data := .dict #[] }).get? x = some ⟨.ref C, none, oda, osl⟩ := Heap.get?_push_of_some _ hx
      have hxs : x ≠ h.objs.size := Nat.ne_of_lt (Heap.lt_size hx)
      refine wpAny_bind (wpAny_alloc' ?_)
      refine wpAny_bind (wpAny_update' hx₁ ?_)
      refine wpAny_pure ?_
      have hgd : ((h.push { cls := .type "dict", data := .dict #[] }).update x fun o => { cls := o.cls, dict := some h.objs.size, data := o.data, slots := o.slots }).get? h.objs.size
          = some { cls := .type "dict", data := .dict #[] } :=
        (Heap.get?_update_ne _ _ _ _ hxs.symm).trans (Heap.get?_push_at rfl rfl)
      have hnd : ((h.push { cls := .type "dict", data := .dict #[] }).update x fun o => { cls := o.cls, dict := some h.objs.size, data := o.data, slots := o.slots }).Ns h.objs.size (fun _ => none) :=
        ⟨_, #[], _, hgd, rfl, fun e he => absurd he (by simp), fun _ => rfl⟩
      refine wpAny_bind (wpAny_pure (wpAny_bind (wpAny_nsSet1 (Heap.Ns1.of_empty hnd) fun h' hn' hs => ?_)))
      obtain ⟨oD, esD, epD, hoD, hdD, hcD⟩ := hn'.count (Within.cons name v Within.nil)
      refine wpAny_bind (wpAny_lookBehind hoD (by rw [hdD]; exact pastItsLine_dict (Nat.le_trans hcD (by rw [List.length_cons, List.length_nil, sizeLine_eq]; omega))) ?_)
      have hx' : h'.get? x = some { cls := .ref C, dict := some h.objs.size, data := oda, slots := osl } := ?_
      refine wpAny_pure (wpAny_pure (wpAny_pure (hq h' _ ⟨{ cls := .ref C, dict := some h.objs.size, data := oda, slots := osl }, hx', rfl, hnc, .inr ⟨h.objs.size, rfl, hxs.symm, ?_⟩⟩ (fun b ob hbx _ hb => ?_)
        (fun o₀ h₀ => by
          obtain rfl := Option.some.inj (hx.symm.trans h₀)
          exact ⟨_, hx', rfl, rfl, rfl, (fun dx e => nomatch e), fun _ => rfl⟩))))
      · obtain ⟨o', es, ep, e1, e2, e3, eu, e4⟩ := hn'
        exact ⟨o', es, ep, e1, e2, e3, eu, fun y => by rw [e4 y]; by_cases hy : y = name <;> simp [hy, hmA]⟩
      · exact (hs.2 b (Nat.ne_of_lt (Heap.lt_size hb))).trans ((Heap.get?_update_ne _ _ _ _ hbx).trans (Heap.get?_push_of_some _ hb))
      · refine (hs.2 x hxs).trans (Heap.get?_update_self _ hx₁ ?_)
        have hfr := (Heap.get?_some_iff.mp hx).2
        cases oda <;> first | rfl | exact hfr
  · subst hdx
    refine wpAny_pure (a := some dx) (wpAny_bind (wpAny_pure (wpAny_bind ?_)))
    refine wpAny_nsSet1 hns fun h' hn' hs => ?_
    obtain ⟨oD, esD, epD, hoD, hdD, hcD⟩ := hn'.count (Within.cons name v hw)
    refine wpAny_bind (wpAny_lookBehind hoD (by rw [hdD]; exact pastItsLine_dict (Nat.le_trans hcD (by rw [List.length_cons]; omega))) ?_)
    refine wpAny_pure (wpAny_pure (wpAny_pure (hq h' _ ⟨_, (hs.2 x hne.symm).trans hx, rfl, hnc, .inr ⟨dx, rfl, hne, hn'⟩⟩ (fun b ob _ hbd hb => ?_)
      (fun o₀ h₀ => ?_))))
    · exact (hs.2 b (hbd _ dx hx rfl)).trans hb
    · obtain rfl := Option.some.inj (hx.symm.trans h₀)
      exact ⟨_, (hs.2 x hne.symm).trans hx, rfl, rfl, rfl, fun _ e => e, fun e => by cases e⟩
end
end Mine
end

section
open PySem PySem.W PyProof.Rows
set_option linter.all false
set_option maxRecDepth 100000
namespace Mine

section
variable {prog : Program} {w : World} {A : Around} {E : Value → Shared → Prop} {h : Heap} {gs : Array GenState} {d : Drawn} {t : Nat} {os : OsState}
variable {nm q : Str} {C N : Addr} {bs bm : List Value} {hdct : Bool} {sn : List Str} {sub : List Value} {ab : Bool} {col : Option Bool} {dd : Option Addr} {k0 k1 k2 k3 k5 : Option Value} {newId : String}

theorem fault_check_init (T : Tail bm) {M : Model} {e : Addr} {oe : Obj} {rest : List Value} {Q : Unit → Shared → Prop}
    (hC : h.get? C = some (excClassObj nm q C N bs bm hdct sn sub ab col dd k0 k1 k2 k3 k5 newId)) (he : h.get? e = some oe) (hcls : oe.cls = .ref C) (hq : Q () ⟨h, gs, d, t, os⟩) :
    wpAny M A (checkBuiltinCall "Exception.__init__" ⟨.ref e :: rest, []⟩) Q E ⟨h, gs, d, t, os⟩ := by
  have F := PySem.F.excBase_Exception
  have hcB : (Value.ref C :: bm).contains (.type "Exception") = true := by rw [List.contains_cons, T.hasB, Bool.or_true]
  have hshort := F.noStar
  simp only [checkBuiltinCall, F.initKind, F.initSplit, F.initRow]
  repeat (first | (with_reducible refine wpAny_loadPart_at he ?_; rw [hcls]) | with_reducible refine wpAny_loadPart_at hC ?_ | (with_reducible refine wpAny_isSubtype_exc hC ?_; rw [hcB]) | wp_step)
  refine wpAny_onRaise ?_
  rw [show ∀ (a b : String) (n : Nat), Bind.check ⟨.positional, "*", "Exception", .self, [⟨"args", .varPos, false⟩]⟩ a b n (List.map (fun x => x.fst) ({ pos := Value.ref e :: rest } : Args).kw) = pure () from
    fun a b n => check_star_args _ _ _ _ _ _]
  exact wpAny_pure hq

theorem fault_base_init (T : Tail bm) {e : Addr} {oe : Obj} {vs : Array Value} {t0 : Addr} {rest : List Value} {Q : Value → Shared → Prop}
    (hC : h.get? C = some (excClassObj nm q C N bs bm hdct sn sub ab col dd k0 k1 k2 k3 k5 newId)) (he : h.get? e = some oe) (hcls : oe.cls = .ref C) (hd : oe.data = .fields vs) (h0 : vs[0]? = some (.ref t0))
    (hq : Q .none ⟨(h.push { cls := .type "tuple", data := .seq rest.toArray }).update e (Obj.mapFields (·.setIfInBounds 0 (.ref h.objs.size))), gs, d, t, os⟩) (hrest : rest.length ≤ sizeLine) :
    wpAny (model prog w) A (call (.builtin "Exception.__init__") (.ref e :: rest)) Q E ⟨h, gs, d, t, os⟩ := by
  have F := PySem.F.excBase_Exception
  refine wpAny_call (codeAny_call_builtin F.init.plain F.initEntry (fault_check_init T hC he hcls ?_))
  unfold Builtin.«BaseException.__init__»
  dsimp only
  rw [if_neg (by simp)]
  unfold newTuple Builtin.BaseException.bexcPut
  have hsz : 0 < vs.size := (Array.getElem?_eq_some_iff.mp h0).1
  have he₁ := Heap.get?_push_of_some (h := h) { cls := .type "tuple", data := .seq rest.toArray } he
  refine wpAny_bind (wpAny_newObj_type (wpAny_bind (wpAny_bind (wpAny_field he₁ hd h0 (wpAny_bind (wpAny_setField he₁ hd hsz ?_))))) (by show rest.toArray.size ≤ sizeLine; rw [List.size_toArray]; exact hrest))
  exact wpAny_letGo (wpAny_pure hq)
end
end Mine
end

section
open PySem PySem.W PyProof.Rows
set_option linter.all false
set_option maxRecDepth 100000
namespace Mine

section
variable {prog : Program} {w : World} {A : Around} {E : Value → Shared → Prop} {s : Shared} {env : Env}

theorem attr_call {o : Expr} {name : Str} {apos pos : Pos} {args : List Expr} {Q : Value → Shared → Prop}
    (hbase : attributeBase o name env (eval o env) = eval o env)
    (hfew : methodCallForm (args.length + ([] : List Keyword).length) (backTo pos (starEach args env)) (backToKw pos (keywordEach [] env)) = true)
    (hline : (apos.endLine == pos.line) = true)
    (h : wpAny (model prog w) A (eval o env) (fun ov s₁ => wpAny (model prog w) A (getMethod ov name (do return (← importBound o env).getD true)) (fun r s₂ => wpAny (model prog w) A (callWith pos r.1 r.2 (backTo pos (starEach args env)) []) Q E s₂) E s₁) E s) :
    wpAny (model prog w) A (eval (.Call (.Attribute o name apos) args [] pos) env) Q E s := by
  rw [arm_eval_Call, hbase]
  refine wpAny_bind (wpAny_mono h (fun ov s₁ h₁ => ?_) fun _ _ e => e)
  refine wpAny_bind (wpAny_standAt ?_)
  have hpos : methodCallPos true o env apos pos = pure pos := by unfold methodCallPos; simp [hline]
  unfold methodCall
  rw [hfew]
  refine wpAny_bind (wpAny_holding ?_)
  unfold calleeOf
  rw [if_pos rfl]
  exact wpAny_mono h₁ (fun r s₂ h₂ => wpAny_bind (wpAny_of_eq hpos h₂)) fun _ _ e => e

theorem class_method {K : Frag} {c mc : Value} {name : Str} {v : Value} {pl : Sem Bool} {hook : Option Value} {Q : Value × List Value → Shared → Prop} (X : K.In s.heap) (ho : Looks (model prog w) s.heap (opaqueClassAbove c) none) (ht : Looks (model prog w) s.heap (typeOf c) mc)
    (hga : findIn K mc "__getattribute__" = some (some (.builtin "type.__getattribute__"))) (hb : Looks (model prog w) s.heap (hookBefore mc) hook) (hi : subIn K mc (.type "type") = some true) (e : findCls K c mc name = some (.val v)) (hh : handedIn v = true)
    (h : Q (v, []) { s with toks := s.toks + 1 }) : wpAny (model prog w) A (getMethod c name pl) Q E s := by
  unfold getMethod
  have hg : Looks (model prog w) s.heap (specialOf c "__getattribute__") (some (.builtin "type.__getattribute__")) := ht.andThen (looks_findIn X hga)
  refine wpAny_bind (hg.here ?_)
  dsimp only
  rw [if_pos PySem.W.canon_tga]
  refine wpAny_bind (PySem.W.cls_open X ho ht hga hb hi e ?_)
  refine wpAny_pure ?_
  show wpAny _ _ (handedOut v) _ _ _
  rw [handedOut_of hh]
  exact wpAny_pure (wpAny_pure h)
end

theorem exc_opaque {M : Model} {h : Heap} : Looks M h (opaqueClassAbove (.type "Exception")) none := Looks.of_pure (by kernel_rfl)
theorem exc_typeOf {M : Model} {h : Heap} : Looks M h (typeOf (.type "Exception")) (.type "type") := Looks.of_pure (by kernel_rfl)
theorem type_hook {M : Model} {h : Heap} : Looks M h (hookBefore (.type "type")) none := Looks.of_pure (by kernel_rfl)
theorem exc_find (K : Frag) : findCls K (.type "Exception") (.type "type") "__init__" = some (.val (.builtin "Exception.__init__")) := by kernel_rfl
end Mine
end

section
open PySem PySem.W PyProof.Rows
set_option linter.all false
set_option maxRecDepth 100000
namespace Mine

/-- what no step here turns -/
structure StIs (s s' : Shared) : Prop where
  os : s'.os = s.os
  gs : s'.gens = s.gens
theorem StIs.refl {s s' : Shared} (os : s'.os = s.os := by rfl) (gs : s'.gens = s.gens := by rfl) : StIs s s' := ⟨os, gs⟩
theorem StIs.trans {s s1 s' : Shared} (x : StIs s s1) (y : StIs s1 s') : StIs s s' := ⟨y.os.trans x.os, y.gs.trans x.gs⟩
theorem StIs.from {s s1 s' : Shared} (x : StIs s1 s') (os : s1.os = s.os := by rfl) (gs : s1.gens = s.gens := by rfl) : StIs s s' := ⟨x.os.trans os, x.gs.trans gs⟩

/-! the fault's object while its __init__ runs; B: what stays -/
structure FO (B : Zm) (h : Heap) (e cf : Addr) (mA : Str → Option Value) : Prop where
  bin : B.In h
  new : B e = none
  obj : ∃ oe vs t0, h.get? e = some oe ∧ oe.cls = .ref cf ∧ oe.data = .fields vs ∧ vs[0]? = some (.ref t0) ∧ vs[1]? = some .none
  dic : ∀ oe dx, h.get? e = some oe → oe.dict = some dx → B dx = none
  inst : h.Inst e cf mA

section
variable {prog : Program} {w : World} {A : Around} {E : Value → Shared → Prop} {s : Shared} {B : Zm} {e cf : Addr} {mA : Str → Option Value} {name : Str} {v : Value} {l : List Value} {cd : ClassData}
variable {nm q : Str} {N : Addr} {bs bm : List Value} {hdct : Bool} {sn : List Str} {sub : List Value} {ab : Bool} {col : Option Bool} {dd : Option Addr} {k0 k1 k2 k3 k5 : Option Value} {newId : String}

theorem FO.store {ns : List Str} (x : FO B s.heap e cf mA) (S : StoC (model prog w) s.heap cf name l cd) {Q : Unit → Shared → Prop} (hw : Within mA ns) (hsz : ns.length ≤ sizeLine)
    (hq : ∀ s', StIs s s' → FO B s'.heap e cf (fun y => if y = name then some v else mA y) → Q () s') : wpAny (model prog w) A (setAttr (.ref e) name v) Q E s := by
  obtain ⟨hp, gs, d, t, os⟩ := s
  obtain ⟨oe, vs, t0, he, hc, hd, h0, h1⟩ := x.obj
  refine fault_setattr S x.inst (fun h' tk' I hk hsame => hq ⟨h', gs, d, tk', os⟩ .refl ?_) hw hsz
  obtain ⟨o₁, ho₁, c1, c2, c3, c4, c5⟩ := hsame oe he
  refine ⟨fun b o hb => ?_, x.new, ⟨o₁, vs, t0, ho₁, c1.trans hc, c2.trans hd, h0, h1⟩, fun o2 dx ho2 hdx => ?_, I⟩
  · refine hk b o (fun q => ?_) (fun o₀ dx h₀ hdx q => ?_) (x.bin b o hb)
    · rw [q, x.new] at hb; cases hb
    · rw [q, x.dic o₀ dx h₀ hdx] at hb; cases hb
  · obtain rfl := Option.some.inj (ho₁.symm.trans ho2)
    cases hq : oe.dict with
    | some dy =>
      have := c4 dy hq
      obtain rfl := Option.some.inj (this.symm.trans hdx)
      exact x.dic oe _ he hq
    | none =>
      have := c5 hq
      obtain rfl := Option.some.inj (this.symm.trans hdx)
      cases hb : B hp.objs.size with
      | none => rfl
      | some o =>
        have := x.bin _ o hb
        exact absurd (Heap.lt_size this) (Nat.lt_irrefl _)

theorem FO.base (x : FO B s.heap e cf mA) (T : Tail bm) (hC : s.heap.get? cf = some (excClassObj nm q cf N bs bm hdct sn sub ab col dd k0 k1 k2 k3 k5 newId)) {rest : List Value} {Q : Value → Shared → Prop} (hrest : rest.length ≤ sizeLine)
    (hq : ∀ s', StIs s s' → FO B s'.heap e cf mA → Q .none s') : wpAny (model prog w) A (call (.builtin "Exception.__init__") (.ref e :: rest)) Q E s := by
  obtain ⟨hp, gs, d, t, os⟩ := s
  obtain ⟨oe, vs, t0, he, hc, hd, h0, h1⟩ := x.obj
  refine fault_base_init T hC he hc hd h0 (hq _ .refl ?_) hrest
  have hsz : 0 < vs.size := (Array.getElem?_eq_some_iff.mp h0).1
  have he₁ := Heap.get?_push_of_some (h := hp) { cls := .type "tuple", data := .seq rest.toArray } he
  obtain ⟨oc, odi, oda, osl⟩ := oe
  dsimp only at hc hd
  subst hc hd
  have he2 : ((hp.push { cls := .type "tuple", data := .seq rest.toArray }).update e (Obj.mapFields (·.setIfInBounds 0 (.ref hp.objs.size)))).get? e = some ⟨.ref cf, odi, .fields (vs.setIfInBounds 0 (.ref hp.objs.size)), osl⟩ := Heap.get?_update_self _ he₁ rfl
  have keep : ∀ b o, b ≠ e → hp.get? b = some o → ((hp.push { cls := .type "tuple", data := .seq rest.toArray }).update e (Obj.mapFields (·.setIfInBounds 0 (.ref hp.objs.size)))).get? b = some o := fun b o hb ho =>
    (Heap.get?_update_ne _ _ _ _ hb).trans (Heap.get?_push_of_some _ ho)
  refine ⟨fun b o hb => keep b o (fun q => ?_) (x.bin b o hb), x.new, ⟨_, vs.setIfInBounds 0 (.ref hp.objs.size), hp.objs.size, he2, rfl, rfl, ?_, ?_⟩, fun o2 dx ho2 hdx => ?_, ?_⟩
  · rw [q, x.new] at hb; cases hb
  · simp [Array.getElem?_setIfInBounds, hsz]
  · rw [Array.getElem?_setIfInBounds, if_neg (by decide)]; exact h1
  · obtain rfl := Option.some.inj (he2.symm.trans ho2)
    exact x.dic _ dx he hdx
  · obtain ⟨o, ho, hcl, hnc, hdc⟩ := x.inst
    obtain rfl := Option.some.inj (he.symm.trans ho)
    refine ⟨_, he2, rfl, fun c => by simp, ?_⟩
    rcases hdc with ⟨a, b⟩ | ⟨dx, a, b, c⟩
    · exact .inl ⟨a, b⟩
    · obtain ⟨o', es, ep, e1, e2⟩ := c
      exact .inr ⟨dx, a, b, o', es, ep, keep dx o' b e1, e2⟩
end
end Mine
end

section
open PySem PySem.W PyProof.Rows
set_option linter.all false
set_option maxRecDepth 100000
namespace Mine

structure MethAt (g : Cx) (i : Nat) (fa : Addr) (fd : FuncData) : Prop where
  there : ∃ o, g.h₀.get? fa = some o ∧ o.cls = .type "function" ∧ o.data = .func fd
  code : g.h₀.CodeRec fd.code fd.qualname
  clo : fd.closure = []
  gl : fd.globals = mainGlobals
  bl : fd.builtins = builtinsNs
  is : FnIs fd (methAt i).2.2 (methAt i).1 (methAt i).2.1

theorem ty_ga (K : Frag) : findIn K (.type "type") "__getattribute__" = some (some (.builtin "type.__getattribute__")) := by kernel_rfl
theorem ty_sub (K : Frag) : subIn K (.type "type") (.type "type") = some true := by kernel_rfl
theorem StoC.keeps {M : Model} {h h' : Heap} {C : Addr} {name : Str} {l : List Value} {cd : ClassData} (S : StoC M h C name l cd) (k : ∀ b o, h.get? b = some o → h'.get? b = some o) : StoC M h' C name l cd where
  mro := S.mro.keeps k
  obj := S.obj.keeps k
  pass := S.pass
  sa := S.sa.keeps k
  free := S.free.keeps k
  cls := S.cls.keeps k
  hd := S.hd

structure Errs (g : Cx) (mg mb : Str → Option Value) (K : Frag) (cf af cI aI N : Addr) (bm : List Value) (mN : Str → Option Value) (cO : Obj) (l : List Value) (cd : ClassData) (fdC fdA : FuncData) : Prop where
  G : Gd g mg mb
  X : K.In g.h₀
  gC : mg "CheckFault" = some (.ref cf)
  gA : mg "AdaError" = some (.ref af)
  gE : mg "Exception" = none ∧ mb "Exception" = some (.type "Exception")
  T : Tail bm
  at_ : g.h₀.get? cf = some cO
  cls : ∃ nm q bs hdct sn sub ab col dd k0 k1 k2 k3 k5, cO = excClassObj nm q cf N bs bm hdct sn sub ab col dd k0 k1 k2 k3 k5 "Exception.__new__"
  ns : g.h₀.Ns N mN
  init : mN "__init__" = some (.ref cI)
  fC : MethAt g 8 cI fdC
  fA : MethAt g 7 aI fdA
  find : findCls K (.ref af) (.type "type") "__init__" = some (.val (.ref aI))
  opq : nsIn K cStatics "thirdparty.any" = some none
  ty : typeIn K (.ref af) = some (.type "type")
  stoL : StoC g.M g.h₀ cf "line" l cd
  stoT : StoC g.M g.h₀ cf "text" l cd

section
variable {g : Cx} {mg mb : Str → Option Value} {K : Frag} {cf af cI aI N : Addr} {bm : List Value} {mN : Str → Option Value} {cO : Obj} {l : List Value} {cd : ClassData} {fdC fdA : FuncData}

theorem nameLocal {A : Around} {E : Value → Shared → Prop} {s : Shared} {env : Env} {x : Str} {p : Pos} {v : Value} {m : Str → Option Value} {Q : Value → Shared → Prop} (fn : env.scope.kind = .function) (hk : env.kindOf x = some .local) (hn : s.heap.Ns env.locals m) (hm : m x = some v)
    (hq : Q v s) (hd : (x == ("__debug__" : Str)) = false := by decide) : wpAny g.M A (eval (.Name x p) env) Q E s :=
  wpAny_Name (wpAny_loadName_local fn hk hn hm hq) hd
end
end Mine
end

section
open PySem PySem.W PyProof.Rows
set_option linter.all false
set_option maxRecDepth 100000
namespace Mine

theorem FO.weaken {B B' : Zm} {h : Heap} {e cf : Addr} {mA : Str → Option Value} (x : FO B h e cf mA) (q : ∀ b o, B' b = some o → B b = some o) : FO B' h e cf mA where
  bin b o hb := x.bin b o (q b o hb)
  new := by
    cases hb : B' e with
    | none => rfl
    | some o => have := q e o hb; rw [x.new] at this; cases this
  obj := x.obj
  dic oe dx he hdx := by
    cases hb : B' dx with
    | none => rfl
    | some o => have := q dx o hb; rw [x.dic oe dx he hdx] at this; cases this
  inst := x.inst
theorem FO.grow {B : Zm} {h h' : Heap} {e cf L : Addr} {mA : Str → Option Value} (x : FO B h e cf mA) (k : ∀ b o, h.get? b = some o → h'.get? b = some o) (hL : h.get? L = none) : FO (fun b => if b = L then h'.get? L else B b) h' e cf mA := by
  obtain ⟨oe, vs, t0, he, hc, hd, h0, h1⟩ := x.obj
  have heL : e ≠ L := by rintro rfl; rw [hL] at he; cases he
  refine ⟨fun b o hb => ?_, ?_, ⟨oe, vs, t0, k _ _ he, hc, hd, h0, h1⟩, fun o2 dx ho2 hdx => ?_, ?_⟩
  · by_cases q : b = L
    · subst q; simpa using hb
    · simp only [if_neg q] at hb
      exact k _ _ (x.bin b o hb)
  · show (if e = L then _ else _) = none
    rw [if_neg heL, x.new]
  · obtain rfl := Option.some.inj ((k _ _ he).symm.trans ho2)
    obtain ⟨o, ho, _, _, hdc⟩ := x.inst
    obtain rfl := Option.some.inj (he.symm.trans ho)
    rcases hdc with ⟨a, b⟩ | ⟨dy, a, b, c⟩
    · rw [a] at hdx; cases hdx
    · obtain rfl := Option.some.inj (a.symm.trans hdx)
      obtain ⟨o', es, ep, e1, e2⟩ := c
      have hne : dy ≠ L := by rintro rfl; rw [hL] at e1; cases e1
      show (if dy = L then _ else _) = none
      rw [if_neg hne]; exact x.dic _ _ he a
  · obtain ⟨o, ho, hcl, hnc, hdc⟩ := x.inst
    refine ⟨o, k _ _ ho, hcl, hnc, ?_⟩
    rcases hdc with ⟨a, b⟩ | ⟨dy, a, b, c⟩
    · exact .inl ⟨a, b⟩
    · obtain ⟨o', es, ep, e1, e2⟩ := c
      exact .inr ⟨dy, a, b, o', es, ep, k _ _ e1, e2⟩

section
variable {g : Cx} {mg mb : Str → Option Value} {K : Frag} {cf af cI aI N : Addr} {bm : List Value} {mN : Str → Option Value} {cO : Obj} {l : List Value} {cd : ClassData} {fdC fdA : FuncData}

theorem ada_init (R : Errs g mg mb K cf af cI aI N bm mN cO l cd fdC fdA) {A : Around} {E : Value → Shared → Prop} {s : Shared} {B : Zm} {e : Addr} {v : Value} {mA0 : Str → Option Value} {ns : List Str} {Q : Value → Shared → Prop} (hdep : A.depth < 900) (z0 : ∀ b o, g.h₀.get? b = some o → B b = some o)
    (x : FO B s.heap e cf mA0) (hw : Within mA0 ns) (hsz : ns.length ≤ sizeLine) (hq : ∀ s', StIs s s' → FO B s'.heap e cf (fun y => if y = "text" then some v else mA0 y) → Q .none s') :
    wpAny g.M A (call (.ref aI) [.ref e, v]) Q E s := by
  obtain ⟨o, ho, hoc, hdat⟩ := R.fA.there
  have gr : ∀ b o, g.h₀.get? b = some o → s.heap.get? b = some o := fun b o e => x.bin b o (z0 b o e)
  have hsc := R.fA.is.scope
  have hsL : s.heap.get? s.heap.objs.size = none := by
    cases q : s.heap.get? s.heap.objs.size with
    | none => rfl
    | some o => exact absurd (Heap.lt_size q) (Nat.lt_irrefl _)
  refine wpAny_call (codeAny_call_cells (o := o) (fd := fdA) (body := (methAt 7).2.1) (binds := [("self", .ref e), ("text", v)]) (by show A.depth < 1000; omega) (gr _ _ ho) hdat (R.G.lim.keeps gr) (R.fA.code.keeps gr) R.fA.is.body ?_ R.fA.clo ?_ ?_ (by rw [hsc]; rfl) (by rw [hsc]; rfl) (by rw [hsc]; rfl))
  · have h1 := R.fA.is.params
    have h2 := R.fA.is.def0
    have h3 := R.fA.is.kwd0
    obtain ⟨n, q, ps, bd, sc, gl, cl, df, kd, doc, pm, an, cd, ct, bl⟩ := fdA
    cases h1; cases h2; cases h3
    rfl
  · rw [hsc]
    intro y hy
    simp at hy
    rcases hy with rfl | rfl <;> exact .inl rfl
  · intro s1 xx
    have he : callEnvC fdA s.heap.objs.size aI = fenv (methAt 7).2.2 s.heap.objs.size aI (fdA.qualname ++ ".<locals>.") fdA.code := by
      unfold callEnvC newEnv fenv
      rw [hsc, R.fA.gl, R.fA.bl]
    rw [he] at xx ⊢
    have st1 : StIs s s1 := by
      obtain ⟨h₁, tk, rfl, _⟩ := xx.done
      exact .refl
    have keep := xx.toInCall.keep
    have hns := xx.toInCall.ns
    have x1 := x.grow keep hsL
    have gr1 : ∀ b o, g.h₀.get? b = some o → s1.heap.get? b = some o := fun b o e => keep _ _ (gr b o e)
    have X1 := R.X.keeps gr1
    have back : ∀ b o, B b = some o → (fun b => if b = s.heap.objs.size then s1.heap.get? s.heap.objs.size else B b) b = some o := fun b o hb => by
      show (if b = s.heap.objs.size then _ else _) = some o
      rw [if_neg (fun q => by have := x.bin b o hb; rw [q, hsL] at this; cases this)]
      exact hb
    have nsx : ∀ {s2 : Shared} {m : Str → Option Value}, FO (fun b => if b = s.heap.objs.size then s1.heap.get? s.heap.objs.size else B b) s2.heap e cf m → s2.heap.Ns s.heap.objs.size (bindL (fenv (methAt 7).2.2 s.heap.objs.size aI (fdA.qualname ++ ".<locals>.") fdA.code).kindOf [("self", .ref e), ("text", v)] fun _ => none) := fun x2 => by
      obtain ⟨o, es, ep, e1, e2⟩ := hns
      exact ⟨o, es, ep, x2.bin _ _ (by show (if _ then _ else _) = _; rw [if_pos rfl]; exact e1), e2⟩
    obtain ⟨nm, q, bs, hdct, sn, sub, ab, col, dd, k0, k1, k2, k3, k5, hcO⟩ := R.cls
    have hC1 := gr1 _ _ R.at_
    rw [hcO] at hC1
    refine wpAny_execs_cons (wpAny_Expr (attr_call rfl rfl rfl (Calls.Name_function_global (by rfl) (by rfl) ?_ (by decide))))
    refine Calls.loadGlobal_builtin (by exact R.G.gns.keeps gr1) R.gE.1 (by exact R.G.bns.keeps gr1) R.gE.2 ?_
    refine class_method X1 exc_opaque exc_typeOf (ty_ga K) type_hook (ty_sub K) (exc_find K) rfl ?_
    refine Calls.callWith_builtin rfl (Calls.evalArgs_plain (Calls.spliced_cons (nameLocal rfl rfl hns rfl (Calls.spliced_cons (nameLocal rfl rfl hns rfl (Calls.spliced_nil ?_))))))
    show wpAny _ _ (call (.builtin "Exception.__init__") [.ref e, v]) _ _ { s1 with toks := s1.toks + 1 }
    refine FO.base (s := { s1 with toks := s1.toks + 1 }) (rest := [v]) x1 R.T hC1 (by show 1 ≤ sizeLine; rw [sizeLine_eq]; omega) fun s2 st2 x2 => ?_
    have gr2 : ∀ b o, g.h₀.get? b = some o → s2.heap.get? b = some o := fun b o e => x2.bin b o (back b o (z0 b o e))
    refine wpAny_execs_cons (plainObj_wpAny_Assign_Attribute (nameLocal rfl rfl (nsx x2) rfl (nameLocal rfl rfl (nsx x2) rfl (x2.store (R.stoT.keeps gr2) hw hsz fun s3 st3 x3 => ?_))))
    exact wpAny_execs_nil (hq s3 ((st1.trans st2.from).trans st3) (x3.weaken back))
end
end Mine
end

section
open PySem PySem.W PyProof.Rows
set_option linter.all false
set_option maxRecDepth 100000
namespace Mine

section
variable {g : Cx} {mg mb : Str → Option Value} {K : Frag} {cf af cI aI N : Addr} {bm : List Value} {mN : Str → Option Value} {cO : Obj} {l : List Value} {cd : ClassData} {fdC fdA : FuncData}

theorem check_init_call (R : Errs g mg mb K cf af cI aI N bm mN cO l cd fdC fdA) {A : Around} {E : Value → Shared → Prop} {s : Shared} {B : Zm} {e : Addr} {ln v : Value} {mA0 : Str → Option Value} {ns : List Str} {Q : Value → Shared → Prop} (hdep : A.depth < 800) (z0 : ∀ b o, g.h₀.get? b = some o → B b = some o)
    (x : FO B s.heap e cf mA0) (hw : Within mA0 ns) (hsz : ns.length + 1 ≤ sizeLine) (hq : ∀ s', StIs s s' → FO B s'.heap e cf (fun y => if y = "line" then some ln else if y = "text" then some v else mA0 y) → Q .none s') :
    wpAny g.M A (call (.ref cI) [.ref e, ln, v]) Q E s := by
  obtain ⟨o, ho, hoc, hdat⟩ := R.fC.there
  have gr : ∀ b o, g.h₀.get? b = some o → s.heap.get? b = some o := fun b o e => x.bin b o (z0 b o e)
  have hsc := R.fC.is.scope
  have hsL : s.heap.get? s.heap.objs.size = none := by
    cases q : s.heap.get? s.heap.objs.size with
    | none => rfl
    | some o => exact absurd (Heap.lt_size q) (Nat.lt_irrefl _)
  refine wpAny_call (codeAny_call_cells (o := o) (fd := fdC) (body := (methAt 8).2.1) (binds := [("self", .ref e), ("line", ln), ("text", v)]) (by show A.depth < 1000; omega) (gr _ _ ho) hdat (R.G.lim.keeps gr) (R.fC.code.keeps gr) R.fC.is.body ?_ R.fC.clo ?_ ?_ (by rw [hsc]; rfl) (by rw [hsc]; rfl) (by rw [hsc]; rfl))
  · have h1 := R.fC.is.params
    have h2 := R.fC.is.def0
    have h3 := R.fC.is.kwd0
    obtain ⟨n, q, ps, bd, sc, gl, cl, df, kd, doc, pm, an, cd, ct, bl⟩ := fdC
    cases h1; cases h2; cases h3
    rfl
  · rw [hsc]
    intro y hy
    simp at hy
    rcases hy with rfl | rfl | rfl <;> exact .inl rfl
  · intro s1 xx
    have he : callEnvC fdC s.heap.objs.size cI = fenv (methAt 8).2.2 s.heap.objs.size cI (fdC.qualname ++ ".<locals>.") fdC.code := by
      unfold callEnvC newEnv fenv
      rw [hsc, R.fC.gl, R.fC.bl]
    rw [he] at xx ⊢
    have st1 : StIs s s1 := by
      obtain ⟨h₁, tk, rfl, _⟩ := xx.done
      exact .refl
    have keep := xx.toInCall.keep
    have hns := xx.toInCall.ns
    have x1 := x.grow keep hsL
    have gr1 : ∀ b o, g.h₀.get? b = some o → s1.heap.get? b = some o := fun b o e => keep _ _ (gr b o e)
    have X1 := R.X.keeps gr1
    have back : ∀ b o, B b = some o → (fun b => if b = s.heap.objs.size then s1.heap.get? s.heap.objs.size else B b) b = some o := fun b o hb => by
      show (if b = s.heap.objs.size then _ else _) = some o
      rw [if_neg (fun q => by have := x.bin b o hb; rw [q, hsL] at this; cases this)]
      exact hb
    have nsx : ∀ {s2 : Shared} {m : Str → Option Value}, FO (fun b => if b = s.heap.objs.size then s1.heap.get? s.heap.objs.size else B b) s2.heap e cf m → s2.heap.Ns s.heap.objs.size (bindL (fenv (methAt 8).2.2 s.heap.objs.size cI (fdC.qualname ++ ".<locals>.") fdC.code).kindOf [("self", .ref e), ("line", ln), ("text", v)] fun _ => none) := fun x2 => by
      obtain ⟨o, es, ep, e1, e2⟩ := hns
      exact ⟨o, es, ep, x2.bin _ _ (by show (if _ then _ else _) = _; rw [if_pos rfl]; exact e1), e2⟩
    obtain ⟨oA, hoA, _, hdA⟩ := R.fA.there
    refine wpAny_execs_cons (wpAny_Expr (attr_call rfl rfl rfl (Calls.Name_function_global (by rfl) (by rfl) ?_ (by decide))))
    refine Calls.loadGlobal_global (by exact R.G.gns.keeps gr1) R.gA ?_
    refine class_method X1 (PySem.W.looks_opaque X1 R.opq) (looks_typeIn X1 R.ty) (ty_ga K) type_hook (ty_sub K) R.find rfl ?_
    refine callWith_def (o := oA) (fd := fdA) hdA (Calls.spliced_cons (nameLocal rfl rfl hns rfl (Calls.spliced_cons (nameLocal rfl rfl hns rfl (Calls.spliced_nil ⟨gr1 _ _ hoA, ?_⟩)))))
    show wpAny _ _ (call (.ref aI) [.ref e, v]) _ _ { s1 with toks := s1.toks + 1 }
    refine ada_init (s := { s1 with toks := s1.toks + 1 }) R (by show A.depth + 1 < 900; omega) (fun b o hb => back b o (z0 b o hb)) x1 hw (by omega) fun s2 st2 x2 => ?_
    have gr2 : ∀ b o, g.h₀.get? b = some o → s2.heap.get? b = some o := fun b o e => x2.bin b o (back b o (z0 b o e))
    refine wpAny_execs_cons (plainObj_wpAny_Assign_Attribute (nameLocal rfl rfl (nsx x2) rfl (nameLocal rfl rfl (nsx x2) rfl (x2.store (R.stoL.keeps gr2) (ns := "text" :: ns) (Within.cons "text" v hw) (by show ns.length + 1 ≤ sizeLine; exact hsz) fun s3 st3 x3 => ?_))))
    exact wpAny_execs_nil (hq s3 ((st1.trans st2.from).trans st3) (x3.weaken back))
end
end Mine
end

section
open PySem PySem.W PyProof.Rows
set_option linter.all false
set_option maxRecDepth 100000
namespace Mine

section
variable {g : Cx} {mg mb : Str → Option Value} {K : Frag} {cf af cI aI N : Addr} {bm : List Value} {mN : Str → Option Value} {cO : Obj} {l : List Value} {cd : ClassData} {fdC fdA : FuncData}

theorem under_depth (A : Around) (C : Addr) (vs : List Value) : (A.under (.builtin "type.__call__" ⟨.ref C :: vs, []⟩)).depth ≤ A.depth + 1 := by
  have h : (Code.builtin "type.__call__" ⟨.ref C :: vs, []⟩).weight ≤ 1 := by first | exact Nat.le_of_eq rfl | exact Nat.zero_le _ | decide +kernel
  exact Nat.add_le_add_left h A.depth

theorem raise_ok (R : Errs g mg mb K cf af cI aI N bm mN cO l cd fdC fdA) : RaiseOk g cf := by
  intro P N' k env ρ c e1 e2 i text p p1 p2 KK hN hx hst he1 he2
  refine .mk fun A E B Z ad s ok sim hp he => ?_
  obtain ⟨nm, q, bs, hdct, sn, sub, ab, col, dd, k0, k1, k2, k3, k5, hcO⟩ := R.cls
  obtain ⟨oI, hoI, hoc, hdI⟩ := R.fC.there
  refine fault_Raise (C := cf) (N := N) (nm := nm) (q := q) (bs := bs) (bm := bm) (hdct := hdct) (sn := sn) (sub := sub) (ab := ab) (col := col) (dd := dd) (k0 := k0) (k1 := k1) (k2 := k2) (k3 := k3) (k5 := k5) (mN := mN) R.T ok.hd (by rw [hst]; rfl) R.init hoc ?_
  refine evalGlob R.G sim rfl hx R.gC ⟨rfl, ?_⟩ (by decide)
  rw [hst]
  refine Calls.evalArgs_plain (Calls.spliced_cons (wpAny_mono (he1.go A E B Z ad s ok sim) (fun v s1 ⟨Z1, x1, r1⟩ => Calls.spliced_cons (wpAny_mono (he2.go A E B Z1 ad s1 ok (sim.ext x1)) (fun v2 s2 ⟨Z2, x2, r2⟩ => Calls.spliced_nil ?_) fun _ _ e => e)) fun _ _ e => e))
  have x12 := x1.trans x2
  have sim2 := sim.ext x12
  have gr2 := sim2.ground
  have hC2 := gr2 _ _ R.at_
  rw [hcO] at hC2
  refine ⟨rfl, by show 2 ≤ sizeLine; rw [sizeLine_eq]; omega, hC2, R.ns.keeps gr2, gr2 _ _ hoI, fun h' e hm => ?_⟩
  obtain ⟨t, ht, hnt, htt⟩ := hm.there
  have x0 : FO (fun b => s2.heap.get? b) h' e cf (fun _ => none) :=
    ⟨fun b o hb => hm.keeps b o hb, hm.new, ⟨_, _, t, ht, rfl, rfl, rfl, rfl⟩, fun oe dx hoe hdx => (by obtain rfl := Option.some.inj (ht.symm.trans hoe); cases hdx), ⟨_, ht, rfl, fun c hc => (by cases hc), .inl ⟨rfl, fun _ => rfl⟩⟩⟩
  refine check_init_call (s := { s2 with heap := h' }) (ns := []) R (by have := ok.dp; have := under_depth A cf [v, v2]; refine Nat.lt_of_le_of_lt this ?_; omega) (fun b o hb => gr2 b o hb) x0 Within.nil (by rw [sizeLine_eq]; decide) fun s3 st3 x3 => ?_
  have keep3 : ∀ b o, s2.heap.get? b = some o → s3.heap.get? b = some o := fun b o hb => x3.bin b o hb
  obtain ⟨oe, vs, t0, hoe, hc, hd, h0, h1⟩ := x3.obj
  have x23 : Ext g Z2 Z2 s2 s3 c := .grow x2.zin x2.clk keep3 st3.os st3.gs
  refine ⟨rfl, keep3 _ _ hC2, ⟨oe, vs, hoe, hc, hd, h1⟩, he hN _ _ ⟨Z2, ad, ρ, .ext (x12.trans x23) sim.bin, sim2.ext x23, e, oe, vs, _, rfl, ?_, hoe, hc, hd, h1, h0⟩⟩
  cases hb : B e with
  | none => rfl
  | some o => have := sim2.bin e o hb; rw [hm.new] at this; cases this
end
end Mine
end

section
open PySem PySem.W PyProof.Rows
set_option linter.all false
set_option maxRecDepth 100000
namespace Mine

/-! an object while its __init__ runs; B: what stays -/
structure EO (B : Zm) (h : Heap) (e cf : Addr) (mA : Str → Option Value) : Prop where
  bin : B.In h
  new : B e = none
  dic : ∀ oe dx, h.get? e = some oe → oe.dict = some dx → B dx = none
  inst : h.Inst e cf mA

theorem EO.weaken {B B' : Zm} {h : Heap} {e cf : Addr} {mA : Str → Option Value} (x : EO B h e cf mA) (q : ∀ b o, B' b = some o → B b = some o) : EO B' h e cf mA where
  bin b o hb := x.bin b o (q b o hb)
  new := by
    cases hb : B' e with
    | none => rfl
    | some o => have := q e o hb; rw [x.new] at this; cases this
  dic oe dx he hdx := by
    cases hb : B' dx with
    | none => rfl
    | some o => have := q dx o hb; rw [x.dic oe dx he hdx] at this; cases this
  inst := x.inst
theorem EO.grow {B : Zm} {h h' : Heap} {e cf L : Addr} {mA : Str → Option Value} (x : EO B h e cf mA) (k : ∀ b o, h.get? b = some o → h'.get? b = some o) (hL : h.get? L = none) : EO (fun b => if b = L then h'.get? L else B b) h' e cf mA := by
  obtain ⟨oe, he, hcl, hnc, hdc⟩ := x.inst
  have heL : e ≠ L := by rintro rfl; rw [hL] at he; cases he
  refine ⟨fun b o hb => ?_, ?_, fun o2 dx ho2 hdx => ?_, ⟨oe, k _ _ he, hcl, hnc, ?_⟩⟩
  · by_cases q : b = L
    · subst q; simpa using hb
    · simp only [if_neg q] at hb
      exact k _ _ (x.bin b o hb)
  · show (if e = L then _ else _) = none
    rw [if_neg heL, x.new]
  · obtain rfl := Option.some.inj ((k _ _ he).symm.trans ho2)
    rcases hdc with ⟨a, b⟩ | ⟨dy, a, b, c⟩
    · rw [a] at hdx; cases hdx
    · obtain rfl := Option.some.inj (a.symm.trans hdx)
      obtain ⟨o', es, ep, e1, e2⟩ := c
      have hne : dy ≠ L := by rintro rfl; rw [hL] at e1; cases e1
      show (if dy = L then _ else _) = none
      rw [if_neg hne]; exact x.dic _ _ he a
  · rcases hdc with ⟨a, b⟩ | ⟨dy, a, b, c⟩
    · exact .inl ⟨a, b⟩
    · obtain ⟨o', es, ep, e1, e2⟩ := c
      exact .inr ⟨dy, a, b, o', es, ep, k _ _ e1, e2⟩

section
variable {prog : Program} {w : World} {A : Around} {E : Value → Shared → Prop} {s : Shared} {B : Zm} {e cf : Addr} {mA : Str → Option Value} {name : Str} {v : Value} {l : List Value} {cd : ClassData}

theorem EO.store {ns : List Str} (x : EO B s.heap e cf mA) (S : StoC (model prog w) s.heap cf name l cd) {Q : Unit → Shared → Prop} (hw : Within mA ns) (hsz : ns.length ≤ sizeLine)
    (hq : ∀ s', StIs s s' → EO B s'.heap e cf (fun y => if y = name then some v else mA y) → Q () s') : wpAny (model prog w) A (setAttr (.ref e) name v) Q E s := by
  obtain ⟨hp, gs, d, t, os⟩ := s
  obtain ⟨oe, he, hc, hd, _⟩ := id x.inst
  refine fault_setattr S x.inst (fun h' tk' I hk hsame => hq ⟨h', gs, d, tk', os⟩ .refl ?_) hw hsz
  obtain ⟨o₁, ho₁, c1, c2, c3, c4, c5⟩ := hsame oe he
  refine ⟨fun b o hb => ?_, x.new, fun o2 dx ho2 hdx => ?_, I⟩
  · refine hk b o (fun q => ?_) (fun o₀ dx h₀ hdx q => ?_) (x.bin b o hb)
    · rw [q, x.new] at hb; cases hb
    · rw [q, x.dic o₀ dx h₀ hdx] at hb; cases hb
  · obtain rfl := Option.some.inj (ho₁.symm.trans ho2)
    cases hq : oe.dict with
    | some dy =>
      have := c4 dy hq
      obtain rfl := Option.some.inj (this.symm.trans hdx)
      exact x.dic oe _ he hq
    | none =>
      have := c5 hq
      obtain rfl := Option.some.inj (this.symm.trans hdx)
      cases hb : B hp.objs.size with
      | none => rfl
      | some o =>
        have := x.bin _ o hb
        exact absurd (Heap.lt_size this) (Nat.lt_irrefl _)
end
end Mine
end

section
open PySem PySem.W PyProof.Rows
set_option linter.all false
set_option maxRecDepth 100000
namespace Mine

noncomputable def entNames : List Str := ["kind", "name", "key", "subtype", "data", "line", "number", "unique", "home", "part", "region", "full", "is_ready", "is_complete", "is_constant", "is_implicit", "is_overridden"]

structure Ents (g : Cx) (mg mb : Str → Option Value) (K : Frag) (fE : Addr) (l : List Value) (cd : ClassData) (fdE : FuncData) : Prop where
  G : Gd g mg mb
  X : K.In g.h₀
  gE : mg "Entity" = some (.ref g.ent)
  C : ∃ nm q N bs bm hdct sn sub ab col dd k0 k1 k2 k3 k5 newId, g.h₀.get? g.ent = some (excClassObj nm q g.ent N bs bm hdct sn sub ab col dd k0 k1 k2 k3 k5 newId)
  mks : makesIn K g.ent = true
  ini : findIn K (.ref g.ent) "__init__" = some (some (.ref fE))
  ty : typeIn K (.ref fE) = some (.type "function")
  fE : MethAt g 19 fE fdE
  sto : ∀ n ∈ entNames, StoC g.M g.h₀ g.ent n l cd

section
variable {g : Cx} {mg mb : Str → Option Value} {K : Frag} {fE : Addr} {l : List Value} {cd : ClassData} {fdE : FuncData}

/-- one store of the __init__ -/
theorem ent_store {A : Around} {E : Value → Shared → Prop} {s : Shared} {env : Env} {B : Zm} {e C : Addr} {mA m : Str → Option Value} {ns : List Str} {attr : Str} {p1 p2 p3 : Pos} {value : Expr} {v : Value} {Q : Flow → Shared → Prop} (sto : StoC g.M g.h₀ C attr l cd) (gr : ∀ b o, g.h₀.get? b = some o → B b = some o)
    (fn : env.scope.kind = .function) (hself : env.kindOf "self" = some .local) (hm : m "self" = some (.ref e)) (hns : ∀ {s2 : Shared} {mA' : Str → Option Value}, EO B s2.heap e C mA' → s2.heap.Ns env.locals m)
    (x : EO B s.heap e C mA) (hw : Within mA ns) (hsz : ns.length ≤ 100) (hv : ∀ {Q : Value → Shared → Prop}, (∀ t, Q v { s with toks := t }) → wpAny g.M A (eval value env) Q E s)
    (hq : ∀ s', StIs s s' → EO B s'.heap e C (fun y => if y = attr then some v else mA y) → Q .next s') (hs : swapsWith value (some (.Attribute (.Name "self" p1) attr p2)) p3.line env = pure false := by rfl) :
    wpAny g.M A (exec (.Assign [.Attribute (.Name "self" p1) attr p2] value p3) env) Q E s := by
  have hL : (100 : Nat) ≤ sizeLine := by rw [sizeLine_eq]; omega
  refine plainObj_wpAny_Assign_Attribute (hv fun t => ?_) hs
  refine nameLocal fn hself (hns x) hm ?_
  have grs : ∀ b o, g.h₀.get? b = some o → s.heap.get? b = some o := fun b o hb => x.bin b o (gr b o hb)
  exact EO.store (s := { s with toks := t }) x (sto.keeps grs) hw (by omega) fun s' st' x' => hq s' st'.from x'
end
end Mine
end

section
open PySem PySem.W PyProof.Rows
set_option linter.all false
set_option maxRecDepth 100000
namespace Mine
section
variable {g : Cx} {mg mb : Str → Option Value} {K : Frag} {fE : Addr} {l : List Value} {cd : ClassData} {fdE : FuncData}

theorem entity_init (R : Ents g mg mb K fE l cd fdE) {A : Around} {E : Value → Shared → Prop} {s : Shared} {B : Zm} {e : Addr} {v1 v2 v3 v4 v5 v6 : Value} {Q : Value → Shared → Prop} (hdep : A.depth < 900) (z0 : ∀ b o, g.h₀.get? b = some o → B b = some o)
    (x : EO B s.heap e g.ent (fun _ => none)) (hq : ∀ s' m, StIs s s' → EO B s'.heap e g.ent m → m "is_complete" = some (.bool false) → Q .none s') :
    codeAny g.M A (.call (.ref fE) ⟨[.ref e, v1, v2, v3, v4, v5, v6], []⟩) (fun r s' => match r with | .ok (.ret v) => Q v s' | .ok _ => False | .error e => E e s') s := by
  obtain ⟨o, ho, hoc, hdat⟩ := R.fE.there
  have gr : ∀ b o, g.h₀.get? b = some o → s.heap.get? b = some o := fun b o e => x.bin b o (z0 b o e)
  have hsc := R.fE.is.scope
  have hsL : s.heap.get? s.heap.objs.size = none := fresh_none _
  refine (codeAny_call_cells (o := o) (fd := fdE) (body := (methAt 19).2.1) (binds := [("self", .ref e), ("kind", v1), ("name", v2), ("key", v3), ("subtype", v4), ("data", v5), ("line", v6)]) (by show A.depth < 1000; omega) (gr _ _ ho) hdat (R.G.lim.keeps gr) (R.fE.code.keeps gr) R.fE.is.body ?_ R.fE.clo ?_ ?_ (by rw [hsc]; rfl) (by rw [hsc]; rfl) (by rw [hsc]; rfl))
  · have h1 := R.fE.is.params
    have h2 := R.fE.is.def0
    have h3 := R.fE.is.kwd0
    obtain ⟨n, q, ps, bd, sc, gl, cl, df, kd, doc, pm, an, cd, ct, bl⟩ := fdE
    cases h1; cases h2; cases h3
    rfl
  · rw [hsc]
    intro y hy
    simp at hy
    rcases hy with rfl | rfl | rfl | rfl | rfl | rfl | rfl <;> exact .inl rfl
  · intro s1 xx
    have he : callEnvC fdE s.heap.objs.size fE = fenv (methAt 19).2.2 s.heap.objs.size fE (fdE.qualname ++ ".<locals>.") fdE.code := by
      unfold callEnvC newEnv fenv
      rw [hsc, R.fE.gl, R.fE.bl]
    rw [he] at xx ⊢
    have st1 : StIs s s1 := by
      obtain ⟨h₁, tk, rfl, _⟩ := xx.done
      exact .refl
    have keep := xx.toInCall.keep
    have hns := xx.toInCall.ns
    have x1 := x.grow keep hsL
    have back : ∀ b o, B b = some o → (fun b => if b = s.heap.objs.size then s1.heap.get? s.heap.objs.size else B b) b = some o := fun b o hb => by
      show (if b = s.heap.objs.size then _ else _) = some o
      rw [if_neg (fun q => by have := x.bin b o hb; rw [q, hsL] at this; cases this)]
      exact hb
    have grB : ∀ b o, g.h₀.get? b = some o → (fun b => if b = s.heap.objs.size then s1.heap.get? s.heap.objs.size else B b) b = some o := fun b o hb => back b o (z0 b o hb)
    have nsx : ∀ {s2 : Shared} {m : Str → Option Value}, EO (fun b => if b = s.heap.objs.size then s1.heap.get? s.heap.objs.size else B b) s2.heap e g.ent m → s2.heap.Ns s.heap.objs.size (bindL (fenv (methAt 19).2.2 s.heap.objs.size fE (fdE.qualname ++ ".<locals>.") fdE.code).kindOf [("self", .ref e), ("kind", v1), ("name", v2), ("key", v3), ("subtype", v4), ("data", v5), ("line", v6)] fun _ => none) := fun x2 => by
      obtain ⟨o, es, ep, e1, e2⟩ := hns
      exact ⟨o, es, ep, x2.bin _ _ (by show (if _ then _ else _) = _; rw [if_pos rfl]; exact e1), e2⟩
    refine wpAny_execs_cons (ent_store (R.sto "kind" (by decide)) grB rfl rfl rfl nsx x1 Within.nil (by decide) (fun h => nameLocal rfl rfl (nsx x1) rfl (h _)) fun s2 st2 x2 => ?_)
    refine wpAny_execs_cons (ent_store (R.sto "name" (by decide)) grB rfl rfl rfl nsx x2 (.cons _ _ Within.nil) (by decide) (fun h => nameLocal rfl rfl (nsx x2) rfl (h _)) fun s3 st3 x3 => ?_)
    refine wpAny_execs_cons (ent_store (R.sto "key" (by decide)) grB rfl rfl rfl nsx x3 (.cons _ _ (.cons _ _ Within.nil)) (by decide) (fun h => nameLocal rfl rfl (nsx x3) rfl (h _)) fun s4 st4 x4 => ?_)
    refine wpAny_execs_cons (ent_store (R.sto "subtype" (by decide)) grB rfl rfl rfl nsx x4 (.cons _ _ (.cons _ _ (.cons _ _ Within.nil))) (by decide) (fun h => nameLocal rfl rfl (nsx x4) rfl (h _)) fun s5 st5 x5 => ?_)
    refine wpAny_execs_cons (ent_store (R.sto "data" (by decide)) grB rfl rfl rfl nsx x5 (.cons _ _ (.cons _ _ (.cons _ _ (.cons _ _ Within.nil)))) (by decide) (fun h => nameLocal rfl rfl (nsx x5) rfl (h _)) fun s6 st6 x6 => ?_)
    refine wpAny_execs_cons (ent_store (R.sto "line" (by decide)) grB rfl rfl rfl nsx x6 (.cons _ _ (.cons _ _ (.cons _ _ (.cons _ _ (.cons _ _ Within.nil))))) (by decide) (fun h => nameLocal rfl rfl (nsx x6) rfl (h _)) fun s7 st7 x7 => ?_)
    refine wpAny_execs_cons (ent_store (R.sto "number" (by decide)) grB rfl rfl rfl nsx x7 (.cons _ _ (.cons _ _ (.cons _ _ (.cons _ _ (.cons _ _ (.cons _ _ Within.nil)))))) (by decide) (fun h => wpAny_Constant_int (h _)) fun s8 st8 x8 => ?_)
    refine wpAny_execs_cons (ent_store (R.sto "unique" (by decide)) grB rfl rfl rfl nsx x8 (.cons _ _ (.cons _ _ (.cons _ _ (.cons _ _ (.cons _ _ (.cons _ _ (.cons _ _ Within.nil))))))) (by decide) (fun h => wpAny_Constant_str (h _)) fun s9 st9 x9 => ?_)
    refine wpAny_execs_cons (ent_store (R.sto "home" (by decide)) grB rfl rfl rfl nsx x9 (.cons _ _ (.cons _ _ (.cons _ _ (.cons _ _ (.cons _ _ (.cons _ _ (.cons _ _ (.cons _ _ Within.nil)))))))) (by decide) (fun h => wpAny_Constant_none (h _)) fun s10 st10 x10 => ?_)
    refine wpAny_execs_cons (ent_store (R.sto "part" (by decide)) grB rfl rfl rfl nsx x10 (.cons _ _ (.cons _ _ (.cons _ _ (.cons _ _ (.cons _ _ (.cons _ _ (.cons _ _ (.cons _ _ (.cons _ _ Within.nil))))))))) (by decide) (fun h => wpAny_Constant_str (h _)) fun s11 st11 x11 => ?_)
    refine wpAny_execs_cons (ent_store (R.sto "region" (by decide)) grB rfl rfl rfl nsx x11 (.cons _ _ (.cons _ _ (.cons _ _ (.cons _ _ (.cons _ _ (.cons _ _ (.cons _ _ (.cons _ _ (.cons _ _ (.cons _ _ Within.nil)))))))))) (by decide) (fun h => wpAny_Constant_none (h _)) fun s12 st12 x12 => ?_)
    refine wpAny_execs_cons (ent_store (R.sto "full" (by decide)) grB rfl rfl rfl nsx x12 (.cons _ _ (.cons _ _ (.cons _ _ (.cons _ _ (.cons _ _ (.cons _ _ (.cons _ _ (.cons _ _ (.cons _ _ (.cons _ _ (.cons _ _ Within.nil))))))))))) (by decide) (fun h => wpAny_Constant_none (h _)) fun s13 st13 x13 => ?_)
    refine wpAny_execs_cons (ent_store (R.sto "is_ready" (by decide)) grB rfl rfl rfl nsx x13 (.cons _ _ (.cons _ _ (.cons _ _ (.cons _ _ (.cons _ _ (.cons _ _ (.cons _ _ (.cons _ _ (.cons _ _ (.cons _ _ (.cons _ _ (.cons _ _ Within.nil)))))))))))) (by decide) (fun h => wpAny_Constant_bool (h _)) fun s14 st14 x14 => ?_)
    refine wpAny_execs_cons (ent_store (R.sto "is_complete" (by decide)) grB rfl rfl rfl nsx x14 (.cons _ _ (.cons _ _ (.cons _ _ (.cons _ _ (.cons _ _ (.cons _ _ (.cons _ _ (.cons _ _ (.cons _ _ (.cons _ _ (.cons _ _ (.cons _ _ (.cons _ _ Within.nil))))))))))))) (by decide) (fun h => wpAny_Constant_bool (h _)) fun s15 st15 x15 => ?_)
    refine wpAny_execs_cons (ent_store (R.sto "is_constant" (by decide)) grB rfl rfl rfl nsx x15 (.cons _ _ (.cons _ _ (.cons _ _ (.cons _ _ (.cons _ _ (.cons _ _ (.cons _ _ (.cons _ _ (.cons _ _ (.cons _ _ (.cons _ _ (.cons _ _ (.cons _ _ (.cons _ _ Within.nil)))))))))))))) (by decide) (fun h => wpAny_Constant_bool (h _)) fun s16 st16 x16 => ?_)
    refine wpAny_execs_cons (ent_store (R.sto "is_implicit" (by decide)) grB rfl rfl rfl nsx x16 (.cons _ _ (.cons _ _ (.cons _ _ (.cons _ _ (.cons _ _ (.cons _ _ (.cons _ _ (.cons _ _ (.cons _ _ (.cons _ _ (.cons _ _ (.cons _ _ (.cons _ _ (.cons _ _ (.cons _ _ Within.nil))))))))))))))) (by decide) (fun h => wpAny_Constant_bool (h _)) fun s17 st17 x17 => ?_)
    refine wpAny_execs_cons (ent_store (R.sto "is_overridden" (by decide)) grB rfl rfl rfl nsx x17 (.cons _ _ (.cons _ _ (.cons _ _ (.cons _ _ (.cons _ _ (.cons _ _ (.cons _ _ (.cons _ _ (.cons _ _ (.cons _ _ (.cons _ _ (.cons _ _ (.cons _ _ (.cons _ _ (.cons _ _ (.cons _ _ Within.nil)))))))))))))))) (by decide) (fun h => wpAny_Constant_bool (h _)) fun s18 st18 x18 => ?_)
    exact wpAny_execs_nil (hq s18 _ (((((((((((((((((st1.trans st2).trans st3).trans st4).trans st5).trans st6).trans st7).trans st8).trans st9).trans st10).trans st11).trans st12).trans st13).trans st14).trans st15).trans st16).trans st17).trans st18) (x18.weaken back) (by rfl))
end
end Mine
end

section
open PySem PySem.W PyProof.Rows
set_option linter.all false
set_option maxRecDepth 100000
namespace Mine
section
variable {g : Cx} {k : Nat} {env : Env} {ρ : Rho} {c c' : Int} {p1 p2 : Pos} {mg mb : Str → Option Value} {K : Frag} {fE : Addr} {l : List Value} {cd : ClassData} {fdE : FuncData}

theorem keep_of_makes {K : Frag} {C : Addr} (e : makesIn K C = true) : keepIn K (.ref C) = true := by
  unfold makesIn at e
  split at e
  · rename_i oc od cd sl ho
    simp only [Bool.and_eq_true, Bool.not_eq_true', beq_iff_eq] at e
    obtain ⟨⟨⟨⟨⟨⟨⟨e1, e2⟩, e3⟩, e4⟩, e5⟩, e6⟩, e7⟩, e8⟩ := e
    unfold keepIn
    dsimp only
    rw [ho]
    simp [e7]
  · cases e

/-- Entity(..) -/
theorem we_entity (R : Ents g mg mb K fE l cd fdE) {e1 e2 e3 e4 e5 e6 : Expr} {d1 d2 d3 d4 d5 d6 : D} (hx : env.kindOf "Entity" = some .globalImplicit) (ha : WEs g (k + 1) env ρ c [e1, e2, e3, e4, e5, e6] [d1, d2, d3, d4, d5, d6] c')
    (hst : starEach [e1, e2, e3, e4, e5, e6] env = (false, eval e1 env) :: starEach [e2, e3, e4, e5, e6] env := by rfl) (hplain : (backTo p2 (starEach [e2, e3, e4, e5, e6] env)).any (·.1) = false := by rfl) :
    WE g (k + 1) env ρ c (.Call (.Name "Entity" p1) [e1, e2, e3, e4, e5, e6] [] p2) .ent c' := .mk fun A E B Z ad s ok sim => by
  refine wpAny_Call_NameR (evalGlob R.G sim rfl hx R.gE ?_ (by decide))
  refine callWith_K (K := K) (R.X.keeps sim.ground) (keep_of_makes R.mks) (wpAny_mono (ha.go A E B Z ad s p2 ok sim) (fun vs s1 ⟨Z1, x1, r1⟩ => ?_) fun _ _ e => e) hst hplain
  have sim1 := sim.ext x1
  have gr1 := sim1.ground
  have X1 := R.X.keeps gr1
  refine ⟨X1, ?_⟩
  obtain ⟨v1, v2, v3, v4, v5, v6, rfl⟩ : ∃ v1 v2 v3 v4 v5 v6, vs = [v1, v2, v3, v4, v5, v6] := by
    have hl := r1.length
    match vs, hl with
    | [v1, v2, v3, v4, v5, v6], _ => exact ⟨v1, v2, v3, v4, v5, v6, rfl⟩
  obtain ⟨hp, gs, d, t, os⟩ := s1
  refine wpAny_call (make_core (makes_of X1 R.mks) (looks_findIn X1 R.ini) (fun self => bind_fn X1 self R.ty) (.inl rfl) ?_)
  have k1 : ∀ b o, hp.get? b = some o → ((hp.push emptyDict).push (instObj g.ent hp.objs.size)).get? b = some o := fun b o e => Heap.get?_push_of_some _ (Heap.get?_push_of_some _ e)
  have hx1 : ((hp.push emptyDict).push (instObj g.ent hp.objs.size)).get? (hp.objs.size + 1) = some (instObj g.ent hp.objs.size) := by heap_get
  have hd1 : ((hp.push emptyDict).push (instObj g.ent hp.objs.size)).get? hp.objs.size = some emptyDict := Heap.get?_push_of_some _ (Heap.get?_push_size _ rfl)
  have x0 : EO (fun b => hp.get? b) ((hp.push emptyDict).push (instObj g.ent hp.objs.size)) (hp.objs.size + 1) g.ent (fun _ => none) :=
    ⟨fun b o hb => k1 b o hb, Heap.get?_none_of_le (Nat.le_succ _), fun oe dx hoe hdx => (by
        obtain rfl := Option.some.inj (hx1.symm.trans hoe)
        obtain rfl := Option.some.inj hdx
        exact fresh_none hp),
      ⟨_, hx1, rfl, fun c => by simp, .inr ⟨hp.objs.size, rfl, Nat.ne_of_lt (Nat.lt_succ_self _), Heap.Ns1.of_empty ⟨_, #[], _, hd1, rfl, fun e he => absurd he (by simp), fun _ => rfl⟩⟩⟩⟩
  refine codeAny_mono (entity_init R (E := E) (s := ⟨(hp.push emptyDict).push (instObj g.ent hp.objs.size), gs, d, t, os⟩) (v1 := v1) (v2 := v2) (v3 := v3) (v4 := v4) (v5 := v5) (v6 := v6)
    (Q := fun v s' => v = .none ∧ ∃ Z', Ext g Z Z' s s' c' ∧ g.Rep Z' (.ref (hp.objs.size + 1)) .ent) (by have := ok.dp; have := under_depth A g.ent [v1, v2, v3, v4, v5, v6]; refine Nat.lt_of_le_of_lt this ?_; omega) (fun b o hb => gr1 b o hb) x0 (fun s' m st' x' hm => ⟨rfl, ?_⟩)) (fun r s' h => ?_)
  · obtain ⟨o, ho, hcl, hnc, hdc⟩ := id x'.inst
    obtain ⟨dx, hdx, hne, hns⟩ : ∃ dx, o.dict = some dx ∧ dx ≠ hp.objs.size + 1 ∧ s'.heap.Ns1 dx m := by
      rcases hdc with ⟨_, b⟩ | q
      · rw [b] at hm; cases hm
      · exact q
    obtain ⟨od, es, ep, hod, hrest⟩ := id hns
    have hnx : hp.get? (hp.objs.size + 1) = none := x'.new
    have hnd : hp.get? dx = none := x'.dic o dx ho hdx
    have keep : ∀ b o, hp.get? b = some o → s'.heap.get? b = some o := x'.bin
    have x2 : Ext g Z1 Z1 ⟨hp, gs, d, t, os⟩ s' c' := .grow x1.zin x1.clk keep st'.os st'.gs
    have zn : ∀ {a}, hp.get? a = none → Z1 a = none := fun {a} ha => by
      cases e : Z1 a with
      | none => rfl
      | some o => have := x1.zin _ _ e; rw [ha] at this; cases this
    have x12 := x1.trans x2
    have x3 := x12.freeze hod (zn hnd) (x1.back hnd)
    have x4 := x3.freeze ho (by rw [Zm.add_other _ _ (Ne.symm hne)]; exact zn hnx) (x1.back hnx)
    refine ⟨_, x4, .ent _ ⟨o, Zm.add_self ..⟩ fun h i => ⟨m, ⟨o, i _ _ (Zm.add_self ..), hcl, hnc, .inr ⟨dx, hdx, hne, od, es, ep, i _ _ ?_, hrest⟩⟩, hm⟩⟩
    rw [Zm.add_other _ _ hne]; exact Zm.add_self ..
  · rcases r with e | (_ | _ | _ | _) <;> first | exact h | exact h.elim
end
end Mine
end

section
open PySem PySem.W PyProof.Rows
set_option linter.all false
set_option maxRecDepth 100000
namespace Mine
variable {g : Cx} {k : Nat} {env : Env} {B Z Z' Z'' : Zm} {ad : Str → Addr} {ρ : Rho} {c c' : Int} {h h' h'' : Heap}

/-- the heap without the objects at l -/
noncomputable def without (h : Heap) (l : List Addr) : Heap := ⟨h.objs.mapIdx fun i o => if i ∈ l then { o with data := .freed } else o, {}⟩
theorem without_in {h : Heap} {l : List Addr} {a : Addr} (hm : a ∈ l) : (without h l).get? a = none := by
  unfold without Heap.get?
  simp only [Array.getElem?_mapIdx]
  cases e : h.objs[a]? with
  | none => rfl
  | some o => simp [hm]
theorem without_out {h : Heap} {l : List Addr} {a : Addr} (hm : a ∉ l) : (without h l).get? a = h.get? a := by
  unfold without Heap.get?
  simp only [Array.getElem?_mapIdx]
  cases e : h.objs[a]? with
  | none => rfl
  | some o => simp [hm]
theorem without_stays (h : Heap) (l : List Addr) : (without h l).StaysIn h := fun b o e => by
  by_cases hm : b ∈ l
  · rw [without_in hm] at e; cases e
  · rw [without_out hm] at e; exact e

/-- all but the address κ stands up to its slots -/
noncomputable def UpK (κ : Addr) (h h' : Heap) : Prop := ∀ b o, b ≠ κ → h.get? b = some o → (∀ vs, o.data ≠ .fields vs) → ∃ sl, h'.get? b = some { o with slots := sl }
theorem UpK.up {κ : Addr} (x : UpK κ h h') (y : h'.UpToSlots h'') : UpK κ h h'' := fun b o hb e hn =>
  let ⟨_, e1⟩ := x b o hb e hn; let ⟨sl, e2⟩ := y b _ e1 hn; ⟨sl, e2⟩
theorem isList_up {a : Addr} {vs : Array Value} (x : h.IsList a vs) (y : h.UpToSlots h') : h'.IsList a vs := by
  obtain ⟨o, e, hc, n, hd⟩ := x
  obtain ⟨sl, e1⟩ := y a o e fun vs q => by rw [hd] at q; cases q
  exact ⟨_, e1, hc, n, hd⟩

/-- the frame's state behind a caught fault -/
theorem SimA.slots (sim : SimA g env B Z ad ρ c h) (hf : ∀ x lv, ρ.lookup x = some lv → ∃ d, lv = .f d) (up : UpK g.κ h h') (zi : Z.In h') (ck : ∃ t, h'.IsList g.κ #[.int c' t, .ref g.sa]) : SimA g env (fun _ => none) Z ad ρ c' h' := by
  have hL := sim.privL.2.2
  have hns : ∀ {m}, h.Ns env.locals m → h'.Ns env.locals m := fun hn => by
    obtain ⟨o, es, ep, ho, hd, r⟩ := hn
    obtain ⟨sl, hs⟩ := up _ o hL ho fun vs q => by rw [hd] at q; cases q
    exact ⟨_, es, ep, hs, hd, r⟩
  have hcell : ∀ {n q v}, env.cells.lookup n = some q → h.IsCell q v → h'.IsCell q v := fun {n q v} hc hv => by
    obtain ⟨o, ho, hd⟩ := hv
    obtain ⟨sl, hs⟩ := up q o (sim.privC n q hc).2.2 ho fun vs r => by rw [hd] at r; cases r
    exact ⟨_, hs, hd⟩
  obtain ⟨t, il⟩ := ck
  obtain ⟨_, _, rs⟩ := sim.clk
  exact { sim with
    zin := zi
    bin := fun b o e => by cases e
    ns := let ⟨m, hm⟩ := sim.ns; ⟨m, hns hm⟩
    cells := fun n q hq => let ⟨v, hv⟩ := sim.cells n q hq; ⟨v, hcell hq hv⟩
    vars := fun x lv hx => by
      obtain ⟨d, rfl⟩ := hf x lv hx
      obtain ⟨v, hl, hr⟩ := sim.vars x _ hx
      refine ⟨v, ?_, hr⟩
      rcases hl with ⟨hk, m, hn, hm⟩ | ⟨hk, q, hq, hv⟩
      · exact .inl ⟨hk, m, hns hn, hm⟩
      · exact .inr ⟨hk, q, hq, hcell hq hv⟩
    privL := ⟨sim.privL.1, rfl, hL⟩
    privC := fun n q hq => ⟨(sim.privC n q hq).1, rfl, (sim.privC n q hq).2.2⟩
    privO := fun x d hx => ⟨(sim.privO x d hx).1, rfl, (sim.privO x d hx).2.2⟩
    clk := ⟨t, il, rs⟩
    kap := ⟨sim.kap.1, rfl⟩ }

/-- one statement, then by hand -/
theorem WS1.raw {st : Stmt} {ss : List Stmt} {A : Around} {E : Value → Shared → Prop} {Q : Flow → Shared → Prop} {s : Shared} {ρm : Rho} {cm : Int} {K : Fl → Rho → Int → Prop} (ok : OkA k A) (sim : SimA g env B Z ad ρ c s.heap)
    (x : WS1 g k env ρ c st K) (hK : ∀ fl ρ' c', K fl ρ' c' → fl = .next ∧ Sub ρm ρ' ∧ c' = cm)
    (hq : ∀ Z' ad' s', StIs s s' → SimA g env B Z' ad' ρm cm s'.heap → wpAny g.M A (execs ss env) Q E s') : wpAny g.M A (execs (st :: ss) env) Q E s :=
  wpAny_execs_cons (wpAny_mono (x.go A E B Z ad s ok sim) (fun f s1 ⟨Z1, ad1, ρ1, c1, fl, z1, sim1, hf, hk⟩ => by
    obtain ⟨rfl, hs, rfl⟩ := hK _ _ _ hk
    cases f <;> first | exact hf.elim | exact hq Z1 ad1 s1 ⟨z1.os, z1.gs⟩ (sim1.weaken hs)) fun _ _ e => e)
noncomputable def NextAt (ρm : Rho) (cm : Int) (fl : Fl) (ρ' : Rho) (c' : Int) : Prop := fl = .next ∧ Sub ρm ρ' ∧ c' = cm
end Mine
end

section
open PySem PySem.W PyProof.Rows
set_option linter.all false
set_option maxRecDepth 100000
namespace Mine

/-- the law's frame -/
noncomputable abbrev lenv (L a : Addr) (q : Str) (code : Value) : Env := fenv (fnAt 27).2.2 L a q code
theorem lcells (L a : Addr) (q : Str) (code : Value) : (lenv L a q code).cells = [(("library" : Str), L + 1)] := rfl
theorem lcell {L a : Addr} {q : Str} {code : Value} {n : Str} {b : Addr} (h : (lenv L a q code).cells.lookup n = some b) : n = "library" ∧ b = L + 1 := by
  rw [lcells] at h
  rw [List.lookup_cons] at h
  by_cases hb : (n == ("library" : Str)) = true
  · rw [hb] at h; cases h; exact ⟨eq_of_beq hb, rfl⟩
  · have hb' : (n == ("library" : Str)) = false := by simpa using hb
    rw [hb'] at h; cases h
theorem take_ints : ∀ {vs : List Value} {ns : List Int} (n : Nat), IntsAre vs ns → IntsAre (vs.take n) (ns.take n)
  | _, _, 0, _ => .nil
  | _, _, n + 1, .nil => by simpa using IntsAre.nil
  | _, _, n + 1, .cons i t r => by simpa using IntsAre.cons i t (take_ints n r)

section
variable {prog : Program} {w : World} {A : Around} {E : Value → Shared → Prop} {s : Shared} {h0 : Heap} {L a ent sa0 : Addr} {q : Str} {code : Value} {m : Str → Option Value} {vs : List Value} {ns : List Int} {v0 : Option Value} {Q : Flow → Shared → Prop} {ss : List Stmt}
variable {p1 p2 p3 p4 p5 p6 p7 p8 : Pos} {k1 k2 : Nat}

theorem law_head (hns : s.heap.Ns L m) (hm : m "script" = some (.ref sa0)) (keep : ∀ b o, h0.get? b = some o → s.heap.get? b = some o) (hl : h0.IsList sa0 vs.toArray) (hI : IntsAre vs ns) (hlen : ns.length ≤ 63)
    (hLn : h0.get? L = none) (hCn : h0.get? (L + 1) = none) (hC : s.heap.IsCell (L + 1) v0)
    (hq : ∀ κ sa Z ad s', StIs s s' → SimA ⟨prog, w, κ, sa, ns.take 60, h0, ent⟩ (lenv L a q code) (fun b => h0.get? b) Z ad [fr "clock" .clk] 0 s'.heap → wpAny (model prog w) A (execs ss (lenv L a q code)) Q E s') :
    wpAny (model prog w) A (execs (.Assign [.Name "clock" p1] (.List [.Constant (.int 0) k1 p2, .Subscript (.Name "script" p3) (.Slice Option.none (some (.Constant (.int 60) k2 p4)) Option.none p5) p6] p7) p8 :: ss) (lenv L a q code)) Q E s := by
  have hsl : sizeLine = 16777216 := rfl
  have hvl : vs.length = ns.length := hI.length
  obtain ⟨hp, gs, dr, tk, os⟩ := s
  simp only at hns keep hC
  refine wpAny_execs_cons (wpAny_Assign_Name (wpAny_List (wpAny_items_cons (wpAny_Constant_int (wpAny_items_cons (Subscript_ (wpAny_Name (wpAny_loadName_local (m := m) rfl rfl ?_ hm ?_) (by decide)))))))) 
  · exact hns
  refine wpAny_Slice ?_
  rw [evalPart_none, evalPart_some]
  refine wpAny_pure (wpAny_Constant_int (wpAny_pure ?_))
  obtain ⟨ops, ho⟩ := subs_any (.Slice Option.none (some (.Constant (.int 60) k2 p4)) Option.none p5) (.ref sa0) (.ref hp.objs.size)
  have il : (hp.push { cls := .type "slice", data := .fields #[.none, .int 60 (tk + 1), .none] }).IsList sa0 vs.toArray := (hl.at fun o e => Heap.get?_push_of_some _ (keep _ o e))
  refine tail_any (T := "list") il.typeIs slot_list_getitem.lookup (wpAny_getItem_list_slice (lo := Option.none) (hi := some 60) (st := Option.none) il (Heap.IsSliceOf.new ..) .none (.int _ _) .none (by simp) ?_ (by simp only [List.size_toArray]; omega)) ho
  have e60 : slicePick vs.toArray Option.none (some 60) Option.none = (vs.take 60).toArray := slicePick_upto' vs.toArray 60
  refine wpAny_items_nil ⟨by show 2 ≤ sizeLine; omega, ?_⟩
  rw [e60]
  show wpAny (model prog w) A (storeName (lenv L a q code) "clock" (.ref ((hp.push { cls := .type "slice", data := .fields #[.none, .int 60 (tk + 1), .none] }).push { cls := .type "list", data := .seq (vs.take 60).toArray }).objs.size)) (fun _ s' => wpAny (model prog w) A (execs ss (lenv L a q code)) Q E s') E
    ⟨((hp.push { cls := .type "slice", data := .fields #[.none, .int 60 (tk + 1), .none] }).push { cls := .type "list", data := .seq (vs.take 60).toArray }).push { cls := .type "list", data := .seq #[.int 0 tk, .ref (hp.push { cls := .type "slice", data := .fields #[.none, .int 60 (tk + 1), .none] }).objs.size] }, gs, dr, tk + 1 + 1, os⟩
  generalize ho1 : ({ cls := .type "slice", data := .fields #[.none, .int 60 (tk + 1), .none] } : Obj) = o1
  generalize ho2 : ({ cls := .type "list", data := .seq (vs.take 60).toArray } : Obj) = o2
  generalize hsa : (hp.push o1).objs.size = sa
  generalize ho3 : ({ cls := .type "list", data := .seq #[.int 0 tk, .ref sa] } : Obj) = o3
  generalize hκ : ((hp.push o1).push o2).objs.size = κ
  have k1 : ∀ b o, hp.get? b = some o → (hp.push o1).get? b = some o := fun b o e => Heap.get?_push_of_some _ e
  have k2 : ∀ b o, (hp.push o1).get? b = some o → ((hp.push o1).push o2).get? b = some o := fun b o e => Heap.get?_push_of_some _ e
  have k3 : ∀ b o, ((hp.push o1).push o2).get? b = some o → (((hp.push o1).push o2).push o3).get? b = some o := fun b o e => Heap.get?_push_of_some _ e
  have gsa : ((hp.push o1).push o2).get? sa = some o2 := by subst hsa; exact Heap.get?_push_size _ (by subst ho2; rfl)
  have gκ : (((hp.push o1).push o2).push o3).get? κ = some o3 := by subst hκ; exact Heap.get?_push_size _ (by subst ho3; rfl)
  have nsa : (hp.push o1).get? sa = none := by subst hsa; exact fresh_none _
  have nκ : ((hp.push o1).push o2).get? κ = none := by subst hκ; exact fresh_none _
  have hn3 : (((hp.push o1).push o2).push o3).Ns L m := hns.keeps fun b o e => k3 b o (k2 b o (k1 b o e))
  have kp : ∀ b o, h0.get? b = some o → (((hp.push o1).push o2).push o3).get? b = some o := fun b o e => k3 b o (k2 b o (k1 b o (keep b o e)))
  have none0 : ∀ {b}, (hp.push o1).get? b = none → h0.get? b = none := fun {b} hb => by
    cases e : h0.get? b with
    | none => rfl
    | some o => have := k1 b o (keep b o e); rw [hb] at this; cases this
  have none1 : ∀ {b}, ((hp.push o1).push o2).get? b = none → (hp.push o1).get? b = none := fun {b} hb => by
    cases e : (hp.push o1).get? b with
    | none => rfl
    | some o => have := k2 b o e; rw [hb] at this; cases this
  have hCe : ∃ oC, hp.get? (L + 1) = some oC ∧ oC.data = .cell v0 := hC
  have hLe : ∃ oL, hp.get? L = some oL := let ⟨o, _, _, e, _⟩ := hns; ⟨o, e⟩
  obtain ⟨oC, hoC, hdC⟩ := hCe
  obtain ⟨oL, hoL⟩ := hLe
  have hκC : L + 1 ≠ κ := fun e => by have := k2 _ _ (k1 _ _ hoC); rw [e, nκ] at this; cases this
  have hκL : L ≠ κ := fun e => by have := k2 _ _ (k1 _ _ hoL); rw [e, nκ] at this; cases this
  have hsaC : L + 1 ≠ sa := fun e => by have := k1 _ _ hoC; rw [e, nsa] at this; cases this
  have hsaL : L ≠ sa := fun e => by have := k1 _ _ hoL; rw [e, nsa] at this; cases this
  have hκsa : κ ≠ sa := fun e => by rw [e, gsa] at nκ; cases nκ
  refine wpAny_storeName_local (m := m) rfl hn3 (fun h' hn' hs => hq κ sa (Zm.add (fun b => h0.get? b) sa o2) (fun _ => 0) ⟨h', gs, dr, _, os⟩ .refl ?_) rfl
  have kp' : ∀ b o, b ≠ L → (((hp.push o1).push o2).push o3).get? b = some o → h'.get? b = some o := fun b o hb e => (hs.2 b hb).trans e
  have zz : ∀ {b}, b ≠ sa → Zm.add (fun b => h0.get? b) sa o2 b = h0.get? b := fun h => Zm.add_other _ _ h
  have zin : (Zm.add (fun b => h0.get? b) sa o2).In h' := fun b o e => by
    by_cases hb : b = sa
    · subst hb
      rw [Zm.add_self] at e; cases e
      exact kp' _ _ (Ne.symm hsaL) (k3 _ _ gsa)
    · rw [zz hb] at e
      exact kp' b o (fun r => by rw [r, hLn] at e; cases e) (kp b o e)
  exact {
    fn := rfl
    gl := rfl
    bl := rfl
    zin := zin
    bin := fun b o (e : h0.get? b = some o) => kp' b o (fun r => by rw [r, hLn] at e; cases e) (kp b o e)
    z0 := fun b o (e : h0.get? b = some o) => by
      rw [zz (fun r => by rw [r, none0 nsa] at e; cases e)]; exact e
    ns := ⟨_, hn'⟩
    cells := fun n b hb => by
      obtain ⟨_, rfl⟩ := lcell hb
      exact ⟨v0, oC, kp' _ _ (Nat.succ_ne_self L) (k3 _ _ (k2 _ _ (k1 _ _ hoC))), hdC⟩
    vars := fun y lv hy => by
      rcases lookup_put hy with ⟨rfl, rfl⟩ | ⟨_, hy⟩
      · exact ⟨.ref κ, .inl ⟨rfl, _, hn', if_pos rfl⟩, .clk⟩
      · simp at hy
    inj := fun y z d e hy => by
      rcases lookup_put hy with ⟨_, h⟩ | ⟨_, hy⟩
      · cases h
      · simp at hy
    apartL := fun n b hb => by
      obtain ⟨_, rfl⟩ := lcell hb
      exact Nat.succ_ne_self L
    apartC := fun n n' b h1 h2 => (lcell h1).1.trans (lcell h2).1.symm
    privL := ⟨(zz hsaL).trans hLn, hLn, hκL⟩
    privC := fun n b hb => by
      obtain ⟨_, rfl⟩ := lcell hb
      exact ⟨(zz hsaC).trans hCn, hCn, hκC⟩
    privO := fun y d hy => by
      rcases lookup_put hy with ⟨_, h⟩ | ⟨_, hy⟩
      · cases h
      · simp at hy
    clk := ⟨tk, ⟨o3, kp' _ _ (Ne.symm hκL) gκ, by subst ho3; rfl, 0, by subst ho3; rfl⟩, .list sa (vs.take 60) _ ⟨o2, Zm.add_self ..⟩ (fun h i => ⟨0, by rw [ho2]; exact i _ _ (Zm.add_self ..)⟩) (by simp [hvl]) fun i v d h1 h2 => by
      have := (ints_rep (g := ⟨prog, w, κ, sa, ns.take 60, h0, ent⟩) (Z := Zm.add (fun b => h0.get? b) sa o2) (take_ints 60 hI)).get h1
      obtain ⟨d', e, r⟩ := this
      rw [h2] at e; cases e; exact r⟩
    kap := ⟨(zz hκsa).trans (none0 (none1 nκ)), none0 (none1 nκ)⟩ }
end
end Mine
end

section
open PySem PySem.W PyProof.Rows
set_option linter.all false
set_option maxRecDepth 100000
namespace Mine
variable {g : Cx} {k : Nat} {mg mb : Str → Option Value} {c c' c1 c2 : Int} {ρ : Rho} {env : Env} {d : D}

theorem text_call (P : Pg g mg mb) {count : Nat} (hc0 : 0 < count) (hc : count ≤ 4) (h0 : 0 ≤ c) (h1 : c ≤ 100) (hsc : g.sc.length ≤ 100) : Calls g mg 3 "_law_text" [.clk, .int count] c (.list ((textGo g.sc count count (c, [])).2.map rowD)) (textGo g.sc count count (c, [])).1 :=
  P.text.call (k := 2) P.G frame_text rfl (body_text P hc0 hc h0 h1 hsc)
noncomputable def entsL (n : Nat) : List (Str × D) := (List.range n).map fun j => (nm j, D.ent)
theorem entsL_succ (n : Nat) : entsL (n + 1) = entsL n ++ [(nm n, .ent)] := by
  unfold entsL; rw [List.range_succ, List.map_append]; rfl
theorem entsL_none : ∀ {i n : Nat}, n ≤ i → i < 10 → (entsL n).lookup (nm i) = none
  | i, 0, _, _ => rfl
  | i, n + 1, h, hi => by
    rw [entsL_succ, List.lookup_append, entsL_none (by omega) hi, List.lookup_cons]
    have : (nm i == nm n) = false := beq_eq_false_iff_ne.mpr fun e => by have := nm_inj i hi n (by omega) e; omega
    rw [this]; rfl
theorem entsL_some : ∀ {i n : Nat}, i < n → n ≤ 10 → (entsL n).lookup (nm i) = some .ent
  | i, n + 1, h, hn => by
    rw [entsL_succ, List.lookup_append]
    by_cases q : i < n
    · rw [entsL_some q (by omega)]; rfl
    · have : i = n := by omega
      subst this
      rw [entsL_none (Nat.le_refl _) (by omega), List.lookup_cons]
      simp

section
variable {K : Frag} {fE : Addr} {l : List Value} {cd : ClassData} {fdE : FuncData}
variable {B Z : Zm} {ad : Str → Addr} {A : Around} {E : Value → Shared → Prop} {Q : Flow → Shared → Prop} {s : Shared} {L a : Addr} {q : Str} {code : Value}

theorem law_mid (P : Pg g mg mb) (R : Ents g mg mb K fE l cd fdE) (ok : OkA 20 A) (hsc : g.sc.length ≤ 100) (sim : SimA g (lenv L a q code) B Z ad [fr "clock" .clk] 0 s.heap)
    (hq : ∀ count main c' rows Z' ad' s', StIs s s' → RowsOk count rows → main < count → SimA g (lenv L a q code) B Z' ad' [fr "parts" (partsD (partsOf rows)), fr "rows" (.list (rows.map rowD)), fr "main" (.int (main : Nat))] c' s'.heap →
      wpAny g.M A (execs ((fnAt 27).2.1.drop 7) (lenv L a q code)) Q E s') :
    wpAny g.M A (execs ((fnAt 27).2.1.drop 1) (lenv L a q code)) Q E s := by
  have hsl : sizeLine = 16777216 := rfl
  have t1 := tickN_call (c := 0) P (sides := 4) (by decide) (by decide) (by decide) hsc
  have b1 := tickN_lt (sc := g.sc) (c := 0) (sides := 4) (by decide)
  generalize tickN g.sc 0 4 = n1 at t1 b1
  have hcount : (1 : Int) + (n1 : Int) = ((n1 + 1 : Nat) : Int) := by omega
  refine WS1.raw (K := NextAt [fr "count" (.int (n1 + 1 : Nat)), fr "clock" .clk] 1) ok sim (WS1.assign (d := .int (1 + (n1 : Int))) (.inl rfl) (WE.binop WE.int (WE.callC P.G t1 (.cons (WE.name rfl) (.cons WE.int .nil)) (by decide)) OpV.int_add) ⟨rfl, ?_, rfl⟩) (fun _ _ _ h => h) fun Z1 ad1 s1 st1 sim1 => ?_
  · rw [hcount]; exact Sub.of ⟨rfl, rfl, trivial⟩
  generalize hcn : n1 + 1 = count at sim1
  have hc0 : 0 < count := by omega
  have hc4 : count ≤ 4 := by omega
  have t2 := text_call (c := 1) P hc0 hc4 (by decide) (by decide) hsc
  have b2 := textGo_b (sc := g.sc) (count := count) (x := (1, [])) count
  have Rw := rowsOk (sc := g.sc) (count := count) (c := 1) hc0 hc4
  generalize textGo g.sc count count (1, []) = tx at t2 b2 Rw
  obtain ⟨c2, rows⟩ := tx
  simp only at t2 b2 Rw
  refine WS1.raw (K := NextAt [fr "rows" (.list (rows.map rowD)), fr "count" (.int count), fr "clock" .clk] c2) ok sim1 (WS1.assign (.inl rfl) (WE.callC P.G t2 (.cons (WE.name rfl) (.cons (WE.name rfl) .nil)) (by decide)) ⟨rfl, Sub.of ⟨rfl, rfl, rfl, trivial⟩, rfl⟩) (fun _ _ _ h => h) fun Z2 ad2 s2 st2 sim2 => ?_
  have t3 := tickN_call (c := c2) P (sides := count) hc0 (by omega) (by omega) hsc
  generalize tickN g.sc c2 count = n3 at t3
  have hmain : ((n3 : Int) + 3).fmod (count : Int) = (((n3 + 3) % count : Nat) : Int) := by
    rw [Int.fmod_eq_emod_of_nonneg _ (by omega)]; push_cast; rfl
  refine WS1.raw (K := NextAt [fr "main" (.int ((n3 + 3) % count : Nat)), fr "rows" (.list (rows.map rowD)), fr "count" (.int count)] (c2 + 1)) ok sim2 (WS1.assign (d := .int (((n3 : Int) + 3).fmod (count : Int))) (.inl rfl) (WE.binop (WE.binop (WE.callC P.G t3 (.cons (WE.name rfl) (.cons (WE.name rfl) .nil)) (by decide)) WE.int OpV.int_add) (WE.name rfl) (OpV.int_mod (by omega))) ⟨rfl, ?_, rfl⟩) (fun _ _ _ h => h) fun Z3 ad3 s3 st3 sim3 => ?_
  · rw [hmain]; exact Sub.of ⟨rfl, rfl, rfl, trivial⟩
  have hmc : (n3 + 3) % count < count := Nat.mod_lt _ hc0
  generalize (n3 + 3) % count = main at sim3 hmc
  refine WS1.raw (K := NextAt [ow "library" (.dS []), fr "main" (.int main), fr "rows" (.list (rows.map rowD)), fr "count" (.int count)] (c2 + 1)) ok sim3 (WS1.assignO (.inr ⟨rfl, rfl⟩) (WO.dict P.G).2.1 ⟨rfl, Sub.of ⟨rfl, rfl, rfl, rfl, trivial⟩, rfl⟩) (fun _ _ _ h => h) fun Z4 ad4 s4 st4 sim4 => ?_
  refine WS1.raw (K := NextAt [ow "library" (.dS (entsL count)), fr "main" (.int main), fr "rows" (.list (rows.map rowD)), fr "count" (.int count)] (c2 + 1)) ok sim4 (WS1.forIn (WE.range (n := count) P.G rfl (WE.name rfl) (by omega)) (.rng _)
    (fun i ρ c1 => ρ = [ow "library" (.dS (entsL i)), fr "main" (.int main), fr "rows" (.list (rows.map rowD)), fr "count" (.int count)] ∧ c1 = c2 + 1) ⟨_, fun _ _ h => h, rfl, rfl⟩ ?_ ?_) (fun _ _ _ h => h) fun Z5 ad5 s5 st5 sim5 => ?_
  · rintro here d1 ρ1 c1 hd ⟨rfl, rfl⟩
    rw [List.getElem?_map, Option.map_eq_some_iff] at hd
    obtain ⟨j, hj, rfl⟩ := hd
    have hh : here < count := by
      have := (List.getElem?_eq_some_iff.mp hj).1; simpa using this
    have : j = here := by simpa [hh] using hj.symm
    subst this
    have hw : ∀ {c}, Calls g mg 1 "_law_word" [.int j] c (.str (nm j)) c := word_call P (by omega)
    refine ⟨_, WA.name (.inl rfl), ?_⟩
    refine WS.cons (WS1.put (d := .ent) rfl (we_entity (k := 19) R rfl (.cons WE.str (.cons (WE.callC P.G hw (.cons (WE.name rfl) .nil) (by decide)) (.cons WE.none (.cons WE.none (.cons WE.none (.cons WE.int .nil))))))) (WE.callC P.G hw (.cons (WE.name rfl) .nil) (by decide))
      (.inr (.inl ⟨nm j, entsL j, rfl, rfl, entsL_none (Nat.le_refl _) (by omega), ?_, rfl⟩)) (.nil ⟨_, ?_, rfl, rfl⟩))
    · simp only [entsL, List.length_map, List.length_range]; omega
    · rw [entsL_succ]; exact Sub.of ⟨rfl, rfl, rfl, rfl, trivial⟩
  · rintro ρ1 c1 ⟨rfl, rfl⟩
    rw [List.length_map, List.length_range]
    exact ⟨rfl, fun _ _ h => h, rfl⟩
  obtain ⟨Z6, z6, sim6⟩ := sim5.freeze (x := "library") rfl
  have hrl : rows.length ≤ 20 := Rw.rl
  refine WS1.raw (K := NextAt [ow "parts" (partsD (partsOf rows)), fr "rows" (.list (rows.map rowD)), fr "main" (.int main)] (c2 + 1)) ok sim6 (WS1.assignCompO [fr "library" (.dS (entsL count))] [("library", L + 1)] rowD rows (fun _ => true) (fun r => (partOf r).enc) (out := (partsOf rows).map Part.enc)
    (WE.name rfl) (.list _) (CompCx.of rfl ⟨⟨rfl, .inl rfl, rfl, .inl rfl, rfl⟩, trivial⟩ ⟨rfl, trivial⟩) (fun C r hr => WTests.nil) (fun C r hr _ => ?_) (by omega) (by unfold partsOf; rw [List.filter_eq_self.mpr (fun _ _ => rfl), List.map_map]; rfl) (.inl rfl) ⟨rfl, Sub.of ⟨rfl, rfl, rfl, trivial⟩, rfl⟩) (fun _ _ _ h => h) fun Z7 ad7 s7 st7 sim7 => ?_
  · have hk := Rw.lt r hr
    have hk2 : kindS (r.1 % 2) = "package" ∨ (kindS (r.1 % 2) = "packbody" ∧ (entsL count).lookup (nm (r.1 / 2)) = some .ent) := by
      rcases Nat.mod_two_eq_zero_or_one r.1 with h | h <;> rw [h]
      · exact .inl rfl
      · exact .inr ⟨rfl, entsL_some (by omega) (by omega)⟩
    rw [← part_eq Rw hr]
    refine WE.callC P.G (unit_part_call P (x := .int 2) (rest := restD (r.1 % 2)) (ctx_ok (Rw.len r hr)) hk2) (.cons (WE.sub (WE.toC (d := rowD r) (WE.name rfl)) WE.int (SubV.tup (by decide) (by decide) ?_)) (.cons (WE.name rfl) .nil)) (by decide)
    rfl
  obtain ⟨Z8, z8, sim8⟩ := sim7.freeze (x := "parts") rfl
  exact hq count main _ rows Z8 ad7 s7 (((((st1.trans st2).trans st3).trans st4).trans st5).trans st7) Rw hmc (sim8.weaken (Sub.of ⟨rfl, rfl, rfl, trivial⟩))
end
end Mine
end

section
open PySem PySem.W PyProof.Rows
set_option linter.all false
set_option maxRecDepth 100000
namespace Mine
variable {g : Cx} {k : Nat} {mg mb : Str → Option Value} {c c' c1 c2 : Int} {ρ : Rho} {env : Env} {d : D}

section
variable {K : Frag} {cf af cI aI N : Addr} {bm : List Value} {mN : Str → Option Value} {cO : Obj} {l : List Value} {cd : ClassData} {fdC fdA : FuncData}
variable {B Z : Zm} {ad : Str → Addr} {A : Around} {E : Value → Shared → Prop} {Q : Flow → Shared → Prop} {s : Shared} {L a : Addr} {q : Str} {code : Value}

theorem law_try (P : Pg g mg mb) (R : Errs g mg mb K cf af cI aI N bm mN cO l cd fdC fdA) (ok : OkA 20 A) {count main : Nat} {rows : List Row} (Rw : RowsOk count rows) (hm : main < count)
    (hfr : A.frames = some [lenv L a q code])
    (sim : SimA g (lenv L a q code) B Z ad [fr "parts" (partsD (partsOf rows)), fr "rows" (.list (rows.map rowD)), fr "main" (.int (main : Nat))] c s.heap)
    (hq : ∀ B' Z' ad' s', StIs s s' → SimA g (lenv L a q code) B' Z' ad' [fr "found" (optD (ordOf (partsOf rows) (nm main))), fr "rows" (.list (rows.map rowD)), fr "main" (.int (main : Nat))] c s'.heap →
      wpAny g.M A (execs ((fnAt 27).2.1.drop 8) (lenv L a q code)) Q E s') :
    wpAny g.M A (execs ((fnAt 27).2.1.drop 7) (lenv L a q code)) Q E s := by
  have hsl : sizeLine = 16777216 := rfl
  have hc4 : count ≤ 4 := Rw.cnt
  have hmem : spK (nm main) ∈ keysOf (partsOf rows) := by
    rw [keysOf_parts, spK_eq]
    exact List.mem_map.mpr ⟨_, Rw.spec main hm, rfl⟩
  obtain ⟨fa, fd, F, call⟩ := order_callX (c := c) P (raise_ok R) (goodParts Rw) hmem
  obtain ⟨o, ho, hdat⟩ := F.there
  have hw : Calls g mg 1 "_law_word" [.int main] c (.str (nm main)) c := word_call P (by omega)
  refine wpAny_execs_cons (wpAny_Try_except (wpAny_execs_cons (wpAny_Assign_Name ?_)))
  refine wpAny_Call_NameR (evalGlob P.G sim rfl rfl F.glob ?_ (by decide))
  refine callWith_def (o := o) (fd := fd) hdat (wpAny_mono ((WEs.cons (WE.name rfl) (WEs.cons (WE.callC P.G hw (.cons (WE.name rfl) .nil) (by decide)) .nil)).go A _ B Z ad s _ ok sim) (fun vs s1 ⟨Z1, x1, r1⟩ => ?_) fun _ _ e => e) rfl
  have sim1 := sim.ext x1
  refine ⟨sim1.ground _ _ ho, ?_⟩
  have hLκ : (lenv L a q code).locals ≠ g.κ := sim1.privL.2.2
  have hCκ : L + 1 ≠ g.κ := (sim1.privC "library" (L + 1) rfl).2.2
  have hbase : ∀ {b o}, b ≠ g.κ → b ≠ L → b ≠ L + 1 → s1.heap.get? b = some o → (without s1.heap [g.κ, L, L + 1]).get? b = some o := fun {b o} h1 h2 h3 e => by
    rw [without_out (by simp [h1, h2, h3])]; exact e
  have hZb : ∀ b o, Z1 b = some o → (without s1.heap [g.κ, L, L + 1]).get? b = some o := fun b o e => hbase (fun r => by rw [r, sim1.kap.1] at e; cases e) (fun r => by have := sim1.privL.1; change Z1 L = none at this; rw [r, this] at e; cases e) (fun r => by have := (sim1.privC "library" (L + 1) rfl).1; rw [r, this] at e; cases e) (sim1.zin b o e)
  have hff : s1.heap.FunFrames (without s1.heap [g.κ, L, L + 1]) [lenv L a q code] := by
    obtain ⟨m, oL, es, ep, hoL, hdL, _⟩ := sim1.ns
    exact ⟨by show ((lenv L a q code).scope.kind ≠ ScopeKind.module); rw [sim1.fn]; decide, ⟨L, oL, rfl, without_in (by simp), hoL, fun vs r => by rw [hdL] at r; cases r⟩, trivial⟩
  refine wpAny_mono (call A _ Z1 s1 vs _ (without s1.heap [g.κ, L, L + 1]) (ok.le (by decide)) hfr hff (without_stays _ _) (without_in (by simp)) sim1.zin sim1.z0 sim1.clk sim1.kap.1 r1 (fun hn ex s2 hcau => ?_)) (fun v s2 ⟨l2, Z2, hl2, x2, r2⟩ => ?_) fun _ _ e => e
  · obtain ⟨⟨hos, hgs⟩, e, a0, rfl, hfl, ⟨t, il⟩, hup⟩ := hcau
    refine wpAny_looks_onW hfr rfl hfl fun h1 hh1 up1 => ?_
    refine wpAny_landsW hh1 fun h2 hfl2 up2 => ?_
    have upk : UpK g.κ s1.heap h2 := UpK.up (UpK.up (h' := s2.heap) hup up1) up2
    have simx : SimA g (lenv L a q code) (fun _ => none) Z1 ad [fr "parts" (partsD (partsOf rows)), fr "rows" (.list (rows.map rowD)), fr "main" (.int (main : Nat))] c h2 := sim1.slots (fun x lv hx => by
      rcases lookup_put hx with ⟨_, h⟩ | ⟨_, hx⟩
      · exact ⟨_, h⟩
      · rcases lookup_put hx with ⟨_, h⟩ | ⟨_, hx⟩
        · exact ⟨_, h⟩
        · rcases lookup_put hx with ⟨_, h⟩ | ⟨_, hx⟩
          · exact ⟨_, h⟩
          · simp at hx) upk (fun b o e => hfl2.1 b o (hZb b o e)) ⟨t, isList_up (isList_up il up1) up2⟩
    refine wpAny_handleBy_cons (codeAny_handlers_test ?_) (by intro q; cases q)
    refine evalGlob P.G simx rfl rfl R.gC ?_ (by decide)
    obtain ⟨nm', q', bs, hdct, sn, sub, ab, col, dd, k0, k1, k2, k3, k5, hcO⟩ := R.cls
    have hC2 := simx.ground _ _ R.at_
    rw [hcO] at hC2
    obtain ⟨ob, hob, hcls⟩ := hfl2.there
    have st2 : StIs s s2 := ⟨hos.trans x1.os, hgs.trans x1.gs⟩
    obtain ⟨hp2, gs2, dr2, tk2, os2⟩ := s2
    refine wpAny_excMatches_sub_self hC2 hob hcls R.T.hasBase ?_
    refine codeAny_handlers_suite (wpAny_setFlight_noneW hfl2.1 hfl2.2.2.1 hfl2.2.2.2.at fun h3 m1 m2 m3 m4 => ?_)
    have simy : SimA g (lenv L a q code) (fun _ => none) Z1 ad [fr "parts" (partsD (partsOf rows)), fr "rows" (.list (rows.map rowD)), fr "main" (.int (main : Nat))] c h3 := simx.slots (fun x lv hx => by
      rcases lookup_put hx with ⟨_, h⟩ | ⟨_, hx⟩
      · exact ⟨_, h⟩
      · rcases lookup_put hx with ⟨_, h⟩ | ⟨_, hx⟩
        · exact ⟨_, h⟩
        · rcases lookup_put hx with ⟨_, h⟩ | ⟨_, hx⟩
          · exact ⟨_, h⟩
          · simp at hx) (fun b o _ e hn => ⟨o.slots, m4 b o e hn⟩) (fun b o e => m1 b o (hZb b o e)) ⟨t, isList_up (isList_up (isList_up il up1) up2) fun b o e hn => ⟨o.slots, m4 b o e hn⟩⟩
    refine wpAny_execs_cons (wpAny_Assign_Name (wpAny_Constant_none (wp_store simy (.inl rfl) fun q' h' tk S => wpAny_execs_nil ?_)))
    have simz := simy.storedF (d := .none) S .none
    exact hq _ Z1 ad _ ⟨st2.os, st2.gs⟩ (by rw [hn]; exact simz.weaken (Sub.of ⟨rfl, rfl, rfl, trivial⟩))
  · refine wp_store (sim1.ext x2) (.inl rfl) fun q' h' tk S => wpAny_execs_nil (wpAny_execs_nil ?_)
    exact hq _ Z2 ad _ ⟨x2.os.trans x1.os, x2.gs.trans x1.gs⟩ (by rw [hl2]; exact ((sim1.ext x2).storedF S r2).weaken (Sub.of ⟨rfl, rfl, rfl, trivial⟩))
end
end Mine
end

section
open PySem PySem.W PyProof.Rows
set_option linter.all false
set_option maxRecDepth 100000
namespace Mine
variable {g : Cx} {k : Nat} {mg mb : Str → Option Value} {c c' c1 c2 : Int} {ρ : Rho} {env : Env} {d : D}

theorem CmpV.none_eq : CmpV g k .Eq .none .none true := fun A E Z c s v1 v2 ok zi ck _ r1 r2 => by
  obtain rfl := rep_none r1; obtain rfl := rep_none r2; exact EqNone.eq_none_none ⟨rfl, .pure zi ck⟩
theorem due_call (P : Pg g mg mb) {count : Nat} {rows : List Row} (R : RowsOk count rows) {main : Nat} (hm : main < count) : Calls g mg 2 "_law_due" [.list (rows.map rowD), .int main] c (optD (dueOf rows main)) c :=
  P.due.call (k := 1) P.G frame_due rfl (body_due P R hm)

section
variable {B Z : Zm} {ad : Str → Addr} {A : Around} {E : Value → Shared → Prop} {Q : Flow → Shared → Prop} {s : Shared} {L a : Addr} {q : Str} {code : Value}
theorem law_ret (P : Pg g mg mb) (ok : OkA 20 A) {count main : Nat} {rows : List Row} (Rw : RowsOk count rows) (hm : main < count)
    (sim : SimA g (lenv L a q code) B Z ad [fr "found" (optD (ordOf (partsOf rows) (nm main))), fr "rows" (.list (rows.map rowD)), fr "main" (.int (main : Nat))] c s.heap)
    (hq : ∀ s', StIs s s' → (∀ b o, g.h₀.get? b = some o → s'.heap.get? b = some o) → Q (.ret (.bool true)) s') :
    wpAny g.M A (execs ((fnAt 27).2.1.drop 8) (lenv L a q code)) Q E s := by
  have hd : ∀ {c}, Calls g mg 2 "_law_due" [.list (rows.map rowD), .int main] c (optD (dueOf rows main)) c := due_call P Rw hm
  rw [ordOf_due Rw hm] at sim
  have key : WS1 g 20 (lenv L a q code) [fr "found" (optD (dueOf rows main)), fr "rows" (.list (rows.map rowD)), fr "main" (.int (main : Nat))] c (((fnAt 27).2.1[8]?).getD default) (fun fl _ _ => fl = .ret (.bool true)) := by
    generalize dueOf rows main = r at hd
    cases r with
    | none => exact WS1.ret (WCmp.toE (WCmp.vv (WE.name rfl) (WE.callC P.G hd (.cons (WE.name rfl) (.cons (WE.name rfl) .nil)) (by decide)) CmpV.none_eq)) rfl
    | some l =>
      have e : decide (intsOf l = intsOf l) = true := by simp
      exact WS1.ret (WCmp.toE (WCmp.cc (WE.toC (WE.name rfl)) (WE.toC (WE.callC P.G hd (.cons (WE.name rfl) (.cons (WE.name rfl) .nil)) (by decide))) (e ▸ CmpCC.eq (ns := intsOf l) (ms := intsOf l)))) rfl
  refine wpAny_execs_cons (wpAny_mono (key.go A E B Z ad s ok sim) (fun f s1 ⟨Z1, ad1, ρ1, c1, fl, z1, sim1, hf, hk⟩ => ?_) fun _ _ e => e)
  subst hk
  cases f <;> first | exact hf.elim | skip
  rename_i v
  cases hf
  exact hq s1 ⟨z1.os, z1.gs⟩ sim1.ground
end
end Mine
end

section
open PySem PySem.W PyProof.Rows
set_option linter.all false
set_option maxRecDepth 100000
namespace Mine

/-! the facts out of the written part of the heap -/
noncomputable def codeIn (K : Frag) (cd : Value) (q : Str) : Bool := match cd with
  | .ref c => (match K.lookup c with
      | some ⟨_, _, .fields vs, _⟩ => (match vs.toList with
          | _ :: .str q' _ :: _ => q' == q
          | _ => false)
      | _ => false)
  | _ => false
noncomputable def fnAll (K : Frag) (fa : Addr) : Option (Value × Arguments × FuncBody × Scope × Value × Value × List (Str × Addr) × Addr × Addr × Bool) := match K.lookup fa with
  | some ⟨c, _, .func fd, _⟩ => some (c, fd.params, fd.body, fd.scope, fd.defaults, fd.kwdefaults, fd.closure, fd.globals, fd.builtins, codeIn K fd.code fd.qualname)
  | _ => none
noncomputable def fnOf (K : Frag) (fa : Addr) : FuncData := match K.lookup fa with
  | some ⟨_, _, .func fd, _⟩ => fd
  | _ => default
noncomputable abbrev goodFn (t : Arguments × List Stmt × Scope) : Option (Value × Arguments × FuncBody × Scope × Value × Value × List (Str × Addr) × Addr × Addr × Bool) :=
  some (.type "function", t.1, .stmts t.2.1, t.2.2, .none, .none, [], mainGlobals, builtinsNs, true)
noncomputable def nsOf (K : Frag) (a : Addr) : Str → Option Value := match K.lookup a with
  | some ⟨_, _, .dict es _, _⟩ => fun n => nsFind es n
  | _ => fun _ => none
noncomputable def strKeysIn (K : Frag) (a : Addr) : Bool := match K.lookup a with
  | some ⟨_, _, .dict es _, _⟩ => es.toList.all fun e => match e.key with | .str .. => true | _ => false
  | _ => false

section
variable {K : Frag} {h : Heap} {mg mb : Str → Option Value} {prog : Program} {w : World}

theorem code_of_K (X : K.In h) {cd : Value} {q : Str} (e : codeIn K cd q = true) : h.CodeRec cd q := by
  unfold codeIn at e
  split at e
  · rename_i c
    split at e
    · rename_i c1 d1 vs sl ho
      split at e
      · rename_i v0 q' t r hq
        have := eq_of_beq e
        subst this
        exact ⟨c, _, vs, t, rfl, X _ _ ho, rfl, by rw [← Array.getElem?_toList, hq]; rfl⟩
      · cases e
    · cases e
  · cases e
theorem fn_of_K (X : K.In h) {fa : Addr} {t : Arguments × List Stmt × Scope} (e : fnAll K fa = goodFn t) :
    (∃ o, h.get? fa = some o ∧ o.cls = .type "function" ∧ o.data = .func (fnOf K fa)) ∧ h.CodeRec (fnOf K fa).code (fnOf K fa).qualname ∧ (fnOf K fa).closure = [] ∧ (fnOf K fa).globals = mainGlobals ∧ (fnOf K fa).builtins = builtinsNs ∧ FnIs (fnOf K fa) t.2.2 t.1 t.2.1 := by
  unfold fnAll at e
  unfold fnOf
  split at e
  · rename_i c d fd sl ho
    simp only [Option.some.injEq, Prod.mk.injEq] at e
    obtain ⟨e1, e2, e3, e4, e5, e6, e7, e8, e9, e10⟩ := e
    exact ⟨⟨_, X _ _ ho, e1, rfl⟩, code_of_K X e10, e7, e8, e9, e2, e3, e4, e5, e6⟩
  · cases e
theorem has_of_K {g : Cx} (X : K.In g.h₀) (GN : g.h₀.Ns mainGlobals mg) {i : Nat} {x : Str} {fa : Addr} (e1 : nsIn K mainGlobals x = some (some (.ref fa))) (e2 : fnAll K fa = goodFn (fnAt i)) : Has g mg i x := by
  obtain ⟨⟨o, ho, _, hd⟩, h2, h3, h4, h5, h6⟩ := fn_of_K X e2
  exact ⟨fa, fnOf K fa, ⟨mg_of X GN e1, ⟨o, ho, hd⟩, h2, h3, h4, h5⟩, h6⟩
theorem meth_of_K {g : Cx} (X : K.In g.h₀) {i : Nat} {fa : Addr} (e2 : fnAll K fa = goodFn (methAt i)) : MethAt g i fa (fnOf K fa) := by
  obtain ⟨h1, h2, h3, h4, h5, h6⟩ := fn_of_K X e2
  exact ⟨h1, h2, h3, h4, h5, h6⟩
theorem ns_of_K (X : K.In h) {a : Addr} (e : strKeysIn K a = true) : h.Ns a (nsOf K a) := by
  unfold strKeysIn at e
  unfold nsOf
  split at e
  · rename_i c d es ep sl ho
    refine ⟨_, es, ep, X _ _ ho, rfl, fun en hen => ?_, fun _ => rfl⟩
    have := List.all_eq_true.mp e en (by simpa using hen)
    split at this
    · exact ⟨_, _, by assumption⟩
    · cases this
  · cases e
theorem stoc_of_K (X : K.In h) {C : Addr} {cd : ClassData} {name : Str} (hc : clsIn K C = some cd) (ho : mroIn K C (.type "object") = some true) (hp : ∀ self, refuseLoop self "__setattr__" cd.mro = pure ())
    (hs : findIn K (.ref C) "__setattr__" = some (some (.builtin "object.__setattr__"))) (hf : findIn K (.ref C) name = some none) (hd : cd.hasDict = true) : StoC (model prog w) h C name cd.mro cd where
  mro := (looks_clsIn X hc).andThen .now
  obj := looks_mroIn X ho
  pass := hp
  sa := looks_findIn X hs
  free := looks_findIn X hf
  cls := looks_clsIn X hc
  hd := hd
end
end Mine
end

section
open PySem PySem.W PyProof.Rows
set_option linter.all false
set_option maxRecDepth 100000
namespace Mine

section
variable {prog : Program} {w : World} {h0 : Heap} {ent : Addr} {mg mb : Str → Option Value} {K : Frag} {fE : Addr} {l l' : List Value} {cd cd' : ClassData} {fdE fdC fdA : FuncData} {cf af cI aI N : Addr} {bm : List Value} {mN : Str → Option Value} {cO : Obj}
variable {A : Around} {E : Value → Shared → Prop} {s : Shared} {L a sa0 : Addr} {q : Str} {code : Value} {m : Str → Option Value} {vs : List Value} {ns : List Int} {v0 : Option Value} {Q : Flow → Shared → Prop}

theorem law_walk (P : ∀ κ sa sc, Pg ⟨prog, w, κ, sa, sc, h0, ent⟩ mg mb) (Re : ∀ κ sa sc, Ents ⟨prog, w, κ, sa, sc, h0, ent⟩ mg mb K fE l cd fdE) (Rc : ∀ κ sa sc, Errs ⟨prog, w, κ, sa, sc, h0, ent⟩ mg mb K cf af cI aI N bm mN cO l' cd' fdC fdA)
    (ok : OkA 20 A) (hfr : A.frames = some [lenv L a q code])
    (hns : s.heap.Ns L m) (hm : m "script" = some (.ref sa0)) (keep : ∀ b o, h0.get? b = some o → s.heap.get? b = some o) (hl : h0.IsList sa0 vs.toArray) (hI : IntsAre vs ns) (hlen : ns.length ≤ 63)
    (hLn : h0.get? L = none) (hCn : h0.get? (L + 1) = none) (hC : s.heap.IsCell (L + 1) v0)
    (hq : ∀ s', StIs s s' → (∀ b o, h0.get? b = some o → s'.heap.get? b = some o) → Q (.ret (.bool true)) s') :
    wpAny (model prog w) A (execs (fnAt 27).2.1 (lenv L a q code)) Q E s := by
  refine law_head (ent := ent) hns hm keep hl hI hlen hLn hCn hC fun κ sa Z ad s1 st1 sim1 => ?_
  refine law_mid (P κ sa _) (Re κ sa _) ok (by show (ns.take 60).length ≤ 100; rw [List.length_take]; omega) sim1 fun count main c' rows Z2 ad2 s2 st2 Rw hm sim2 => ?_
  refine law_try (P κ sa _) (Rc κ sa _) ok Rw hm hfr sim2 fun B3 Z3 ad3 s3 st3 sim3 => ?_
  exact law_ret (P κ sa _) ok Rw hm sim3 fun s4 st4 gr => hq s4 (((st1.trans st2).trans st3).trans st4) gr
end

/-! the names' addresses -/
noncomputable def fnTable : List (Nat × Str × Addr) := [(1, "item_name", 21), (3, "named_units", 26), (4, "is_body", 33), (5, "unit_part", 38), (10, "places_of", 84), (11, "needs_of", 91), (12, "all_needs", 96), (13, "whole_needs", 101), (14, "reached_parts", 108), (15, "ring_of", 113), (16, "order_parts", 118), (17, "ring_text", 123),
  (21, "_law_tick", 151), (22, "_law_word", 158), (23, "_law_clauses", 165), (24, "_law_text", 172), (25, "_law_walk", 179), (26, "_law_due", 184)]
noncomputable def blts : List Str := ["range", "len", "list", "tuple", "sorted", "str", "Exception"]
theorem boots : blts.map bootBuiltins = [some (.type "range"), some (.builtin "len"), some (.type "list"), some (.type "tuple"), some (.builtin "sorted"), some (.type "str"), some (.type "Exception")] := by kernel_rfl
noncomputable abbrev faultObj : Obj := excClassObj "CheckFault" "CheckFault" 75 74 [.ref 55] [.ref 55, .type "Exception", .type "BaseException", .type "object"] true [] [] false Option.none Option.none (some (.ref 59)) Option.none (some (.str "CheckFault" 251)) (some (.str "CheckFault" 259)) (some (.bool true)) "Exception.__new__"
noncomputable abbrev entObj : Obj := excClassObj "Entity" "Entity" 140 139 [.type "object"] [.type "object"] true [] [] false Option.none Option.none Option.none Option.none (some (.str "Entity" 353)) (some (.str "Entity" 361)) (some (.bool true)) "object.__new__"
noncomputable def clsOf (o : Obj) : ClassData := match o.data with | .cls cd => cd | _ => default

/-- what is to be looked up in the written part -/
structure Written (K : Frag) : Prop where
  glob : fnTable.map (fun t => nsIn K mainGlobals t.2.1) = fnTable.map (fun t => some (some (.ref t.2.2)))
  fns : fnTable.map (fun t => fnAll K t.2.2) = fnTable.map (fun t => goodFn (fnAt t.1))
  free : blts.map (nsIn K mainGlobals) = blts.map fun _ => some Option.none
  gC : nsIn K mainGlobals "CheckFault" = some (some (.ref 75))
  gA : nsIn K mainGlobals "AdaError" = some (some (.ref 55))
  gE : nsIn K mainGlobals "Entity" = some (some (.ref 140))
  oC : K.lookup 75 = some faultObj
  oE : K.lookup 140 = some entObj
  sC : strKeysIn K 74 = true
  sE : strKeysIn K 139 = true
  iC : nsOf K 74 "__init__" = some (.ref 72)
  nE : nsOf K 139 "__getattribute__" = Option.none
  nE2 : nsOf K 139 "is_complete" = Option.none
  mC : fnAll K 72 = goodFn (methAt 8)
  mA : fnAll K 52 = goodFn (methAt 7)
  mE : fnAll K 137 = goodFn (methAt 19)
  find : findCls K (.ref 55) (.type "type") "__init__" = some (.val (.ref 52))
  opq : nsIn K cStatics "thirdparty.any" = some Option.none
  ty : typeIn K (.ref 55) = some (.type "type")
  roC : mroIn K 75 (.type "object") = some true
  roE : mroIn K 140 (.type "object") = some true
  saC : findIn K (.ref 75) "__setattr__" = some (some (.builtin "object.__setattr__"))
  saE : findIn K (.ref 140) "__setattr__" = some (some (.builtin "object.__setattr__"))
  fL : findIn K (.ref 75) "line" = some Option.none
  fT : findIn K (.ref 75) "text" = some Option.none
  fE : entNames.map (fun n => findIn K (.ref 140) n) = entNames.map fun _ => some Option.none
  mks : makesIn K 140 = true
  ini : findIn K (.ref 140) "__init__" = some (some (.ref 137))
  tyE : typeIn K (.ref 137) = some (.type "function")

section
variable {K : Frag} {mg mb : Str → Option Value} {prog : Program} {w : World} {κ sa : Addr} {sc : List Int} {h0 : Heap}
theorem gd_of (W : Written K) (X : K.In h0) (GN : h0.Ns mainGlobals mg) (BN : h0.Ns builtinsNs mb) (BB : ∀ x : Str, x ≠ "__name__" → mb x = bootBuiltins x) (NL : h0.NoLimit) : Gd ⟨prog, w, κ, sa, sc, h0, 140⟩ mg mb := by
  have hf := List.map_inj_left.mp W.free
  have no : ∀ x ∈ blts, mg x = Option.none := fun x hx => mg_none_of X GN (hf x hx)
  have hb := boots
  simp only [blts, List.map_cons, List.map_nil, List.cons.injEq, and_true] at hb
  obtain ⟨b1, b2, b3, b4, b5, b6, b7⟩ := hb
  exact ⟨NL, GN, BN, by
    obtain ⟨o, es, ep, ho, _⟩ := GN
    exact ⟨_, o, by decide, ho⟩,
    ⟨no _ (by simp [blts]), (BB _ (by decide)).trans b1⟩, ⟨no _ (by simp [blts]), (BB _ (by decide)).trans b2⟩, ⟨no _ (by simp [blts]), (BB _ (by decide)).trans b3⟩,
    ⟨no _ (by simp [blts]), (BB _ (by decide)).trans b4⟩, ⟨no _ (by simp [blts]), (BB _ (by decide)).trans b5⟩, ⟨no _ (by simp [blts]), (BB _ (by decide)).trans b6⟩⟩
theorem has_at (W : Written K) (X : K.In h0) (GN : h0.Ns mainGlobals mg) {i : Nat} {x : Str} {fa : Addr} (j : Nat) (hj : fnTable[j]? = some (i, x, fa)) : Has ⟨prog, w, κ, sa, sc, h0, 140⟩ mg i x := by
  have hm := List.mem_of_getElem? hj
  have h1 := List.map_inj_left.mp W.glob _ hm
  have h2 := List.map_inj_left.mp W.fns _ hm
  exact has_of_K (g := ⟨prog, w, κ, sa, sc, h0, 140⟩) X GN h1 h2
theorem pg_of (W : Written K) (X : K.In h0) (GN : h0.Ns mainGlobals mg) (BN : h0.Ns builtinsNs mb) (BB : ∀ x : Str, x ≠ "__name__" → mb x = bootBuiltins x) (NL : h0.NoLimit) : Pg ⟨prog, w, κ, sa, sc, h0, 140⟩ mg mb where
  G := gd_of W X GN BN BB NL
  item_name := has_at W X GN 0 rfl
  named_units := has_at W X GN 1 rfl
  is_body := has_at W X GN 2 rfl
  unit_part := has_at W X GN 3 rfl
  places_of := has_at W X GN 4 rfl
  needs_of := has_at W X GN 5 rfl
  all_needs := has_at W X GN 6 rfl
  whole_needs := has_at W X GN 7 rfl
  reached_parts := has_at W X GN 8 rfl
  ring_of := has_at W X GN 9 rfl
  order_parts := has_at W X GN 10 rfl
  ring_text := has_at W X GN 11 rfl
  tick := has_at W X GN 12 rfl
  word := has_at W X GN 13 rfl
  clauses := has_at W X GN 14 rfl
  text := has_at W X GN 15 rfl
  walk := has_at W X GN 16 rfl
  due := has_at W X GN 17 rfl
  ent := ⟨_, _, _, _, _, _, _, _, _, _, _, _, _, _, _, nsOf K 139, X _ _ W.oE, ns_of_K X W.sE, W.nE, W.nE2⟩
theorem pass_fault : ∀ self, refuseLoop self "__setattr__" (clsOf faultObj).mro = pure () := fun self => by
  show refuseLoop self "__setattr__" [.ref 75, .ref 55, .type "Exception", .type "BaseException", .type "object"] = pure ()
  rw [refuseLoop_ref, refuseLoop_ref]
  exact PySem.F.store_Exception.passes self
theorem pass_ent : ∀ self, refuseLoop self "__setattr__" (clsOf entObj).mro = pure () := fun self => by
  show refuseLoop self "__setattr__" [.ref 140, .type "object"] = pure ()
  rw [refuseLoop_ref]
  exact PySem.F.store_object.passes self
theorem ents_of (W : Written K) (X : K.In h0) (GN : h0.Ns mainGlobals mg) (BN : h0.Ns builtinsNs mb) (BB : ∀ x : Str, x ≠ "__name__" → mb x = bootBuiltins x) (NL : h0.NoLimit) : Ents ⟨prog, w, κ, sa, sc, h0, 140⟩ mg mb K 137 (clsOf entObj).mro (clsOf entObj) (fnOf K 137) where
  G := gd_of W X GN BN BB NL
  X := X
  gE := mg_of X GN W.gE
  C := ⟨_, _, _, _, _, _, _, _, _, _, _, _, _, _, _, _, _, X _ _ W.oE⟩
  mks := W.mks
  ini := W.ini
  ty := W.tyE
  fE := meth_of_K (g := ⟨prog, w, κ, sa, sc, h0, 140⟩) X W.mE
  sto := fun n hn => stoc_of_K X (by unfold clsIn; rw [W.oE]; rfl) W.roE pass_ent W.saE (List.map_inj_left.mp W.fE n hn) rfl
theorem errs_of (W : Written K) (X : K.In h0) (GN : h0.Ns mainGlobals mg) (BN : h0.Ns builtinsNs mb) (BB : ∀ x : Str, x ≠ "__name__" → mb x = bootBuiltins x) (NL : h0.NoLimit) :
    Errs ⟨prog, w, κ, sa, sc, h0, 140⟩ mg mb K 75 55 72 52 74 [.ref 55, .type "Exception", .type "BaseException", .type "object"] (nsOf K 74) faultObj (clsOf faultObj).mro (clsOf faultObj) (fnOf K 72) (fnOf K 52) where
  G := gd_of W X GN BN BB NL
  X := X
  gC := mg_of X GN W.gC
  gA := mg_of X GN W.gA
  gE := by
    have hb := boots
    simp only [blts, List.map_cons, List.map_nil, List.cons.injEq, and_true] at hb
    exact ⟨mg_none_of X GN (List.map_inj_left.mp W.free _ (by simp [blts])), (BB _ (by decide)).trans hb.2.2.2.2.2.2⟩
  T := ⟨by decide, by decide, by decide, by decide⟩
  at_ := X _ _ W.oC
  cls := ⟨_, _, _, _, _, _, _, _, _, _, _, _, _, _, rfl⟩
  ns := ns_of_K X W.sC
  init := W.iC
  fC := meth_of_K (g := ⟨prog, w, κ, sa, sc, h0, 140⟩) X W.mC
  fA := meth_of_K (g := ⟨prog, w, κ, sa, sc, h0, 140⟩) X W.mA
  find := W.find
  opq := W.opq
  ty := W.ty
  stoL := stoc_of_K X (by unfold clsIn; rw [W.oC]; rfl) W.roC pass_fault W.saC W.fL rfl
  stoT := stoc_of_K X (by unfold clsIn; rw [W.oC]; rfl) W.roC pass_fault W.saC W.fT rfl
end
end Mine
end

section
open PySem PySem.W PyProof.Rows
set_option linter.all false
set_option maxRecDepth 100000
namespace Mine
section
variable {K : Frag} {mg mb : Str → Option Value} {prog : Program} {w : World} {s1 : Shared} {h₁ : Heap} {fa sa0 : Addr} {q : Str} {code : Value} {m : Str → Option Value} {vs : List Value} {ns : List Int} {v0 : Option Value} {wobj : Obj} {tk : Tok} {Q : Flow → Shared → Prop} {E : Value → Shared → Prop}
theorem law_join (W : Written K) (X : K.In s1.heap) (GN : s1.heap.Ns mainGlobals mg) (BN : s1.heap.Ns builtinsNs mb) (BB : ∀ x : Str, x ≠ "__name__" → mb x = bootBuiltins x) (NL : s1.heap.NoLimit)
    (hL : s1.heap.IsList sa0 vs.toArray) (hI : IntsAre vs ns) (hcond : ¬ ((63 : Nat) : Int) < (ns.length : Int)) (hg : s1.gens = #[])
    (F : Fr s1.heap s1.heap.objs.size h₁ m) (hm : m "script" = some (.ref sa0)) (hN : h₁.get? (s1.heap.objs.size + 1) = some wobj) (hw : wobj.data = .cell v0)
    (hq : ∀ s', s'.os = s1.os → s'.gens = #[] → (∀ b o, s1.heap.get? b = some o → s'.heap.get? b = some o) → Q (.ret (.bool true)) s') :
    wpAny (model prog w) (callerA.deeper (lenv s1.heap.objs.size fa q code)) (execs (fnAt 27).2.1 (lenv s1.heap.objs.size fa q code)) Q E { s1 with heap := h₁, toks := tk } :=
  law_walk (h0 := s1.heap) (fun κ sa sc => pg_of W X GN BN BB NL) (fun κ sa sc => ents_of W X GN BN BB NL) (fun κ sa sc => errs_of W X GN BN BB NL)
    ⟨rfl, by show 1 + claimMargin + 1 + 2 * 20 ≤ 800; decide, by show 4 + 3 + 10 * 20 ≤ 9000; decide⟩ rfl F.ns hm F.keep hL hI (by omega) (fresh_none _) (Heap.get?_none_of_le (Nat.le_succ _)) ⟨wobj, hN, hw⟩
    fun s' st gr => hq s' st.os (st.gs.trans hg) gr
end
end Mine
end

section
open PySem PySem.W PyProof.Rows
set_option linter.all false
set_option maxRecDepth 100000
set_option maxHeartbeats 8000000
namespace Mine
/-! the written heap holds what is asked of it -/
theorem writ (P : Params) : Written (theHeap P) where
  glob := by kernel_rfl
  fns := by kernel_rfl
  free := by kernel_rfl
  gC := by kernel_rfl
  gA := by kernel_rfl
  gE := by kernel_rfl
  oC := by kernel_rfl
  oE := by kernel_rfl
  sC := by kernel_rfl
  sE := by kernel_rfl
  iC := by kernel_rfl
  nE := by kernel_rfl
  nE2 := by kernel_rfl
  mC := by kernel_rfl
  mA := by kernel_rfl
  mE := by kernel_rfl
  find := by kernel_rfl
  opq := by kernel_rfl
  ty := by kernel_rfl
  roC := by kernel_rfl
  roE := by kernel_rfl
  saC := by kernel_rfl
  saE := by kernel_rfl
  fL := by kernel_rfl
  fT := by kernel_rfl
  fE := by kernel_rfl
  mks := by kernel_rfl
  ini := by kernel_rfl
  tyE := by kernel_rfl
end Mine
end

open PySem PySem.W PyProof.Rows
set_option maxRecDepth 100000 in
set_option maxHeartbeats 8000000 in
theorem PySem.Challenge.cw_pp0002_01_holds : PySem.Challenge.rw_pp0002_01.Holds := by
  w_on
  refine holds_law Mine.law_said fun said => ?_
  refine holds_open (q := Mine.theView) (loose := []) (Xt := fun s => xlAt Mine.theView [] s && recOk (RowW.records (PySem.Challenge.rw_pp0002_01.row.toRowW)) s) (XP := XL Mine.theView []) (Yf := Hook.obs Mine.theHook) (Ya := Hook.val Mine.theHook) (YP := Hook.says Mine.theHook) (N := 2818) Mine.top_run (Hook.of Mine.theHook) (Hook.keeps Mine.theHook)
    (fun s e => xl_of s (Bool.and_eq_true_iff.mp e).1) XL.keeps (by rfl) (by rfl) (by rfl) (fun s e => recFacts_of (Bool.and_eq_true_iff.mp e).2) (by rfl) (by first | assumption | decide +kernel) (by decide +kernel) ⟨rfl, rfl, rfl, rfl, rfl, by decide +kernel⟩ ?hw ?hc
  case hw => w_witness2
  case hc =>
    intro w s₀ s₁ mg mb G Y fa o pm cd doc dV kV ho hd hcd hD hmg hg args vals as hpre hlay hrd hwl hlo
    have KX9 := kIn_of Y
    refine Ground.open G ?_
    intro T B D TE TW
    try (refine guard_noD D (by decide +kernel) ?_; clear D)
    have T9 := T
    clear hmg
    wrow_args hpre hlay hrd hwl hlo
    refine enter_call ?_
    w_top on
    try refine codeAny_mono ?_ (fun _ _ g => GoodW.toG g)
    have K0 := below_caller (Top.heap T)
    w_call any ho hd hcd hD T F
    have F9 := ‹Fr _ _ _ _›
    have N9 := ‹News _ _ _ _›
    have hL9 := ‹Heap.IsList _ _ _›
    have hI9 := ‹IntsAre _ _›
    have hw9 := ‹Obj.data _ = .cell _›
    refine Mine.law_join (Mine.writ _) KX9 T9.g T9.b T9.builtins T9.nolimit hL9 hI9 (by assumption) hg F9 rfl (N9 _ (.head _)).1 hw9 fun s' h1 h2 h3 => ?_
    exact ⟨.inl ⟨_, _, [], rfl, fun _ => rfl, .bool true, (by kernel_rfl), unshared_nil⟩, h3, h1, h2⟩
