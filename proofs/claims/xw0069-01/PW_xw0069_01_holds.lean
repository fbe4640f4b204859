import PyProof.Rows.All
import Wide.All
import OpenK.AllK
import Wide.FinOn
import Lean
import PySem.Challenge.RW_xw0069_01
open PySem PySem.W PyProof.Rows
set_option Elab.async false
set_option compiler.extract_closed false
set_option maxRecDepth 100000
set_option linter.all false
section
-- A_head
namespace Mine
open PySem PySem.W PyProof.Rows
noncomputable abbrev P0 : Program := PySem.Challenge.pw_xw0069_01
noncomputable abbrev z (s : String) : Str := Str.ofString s
noncomputable abbrev H (P : Params) (s : String) := PyData.keyHash P (z s)
noncomputable def st (k : Nat) : Stmt := (P0.main.body[k]?).getD (.Pass default)
noncomputable def me (k j : Nat) : Stmt := match st k with | .ClassDef _ _ _ b .. => (b[j]?).getD (.Pass default) | s => s
noncomputable def fd (s : Stmt) (q : Str) (g : Addr) (m c : Value) : FuncData := match s with
  | .FunctionDef n a b _ _ _ sc _ _ _ => { name := n, qualname := q, params := a, body := .stmts b, scope := sc, globals := g, closure := [], defaults := .none, kwdefaults := .none, pyModule := m, code := c }
  | _ => default
noncomputable abbrev lf : Life := ⟨[], [], [], 0, [], [], false, #[], [], 0, false, false, false, 0, [2000, 10, 10], false, 0, true, [], [], 0, false⟩
noncomputable def q12 (_ : Params) : Obj := ⟨.none, none, .fields #[], #[]⟩
noncomputable def o2 (P : Params) : Obj := ⟨.none, none, .dict #[⟨H P "type.__subclasses__.Exception.0", .str (z "type.__subclasses__.Exception.0") 216, .int 31 0⟩, ⟨H P "type.__subclasses__.Exception.n", .str (z "type.__subclasses__.Exception.n") 217, .int 1 0⟩] 2, #[]⟩
noncomputable def o3 (P : Params) : Obj := ⟨.type "dict", none, .dict #[⟨H P "__name__", .str (z "__name__") 165, .str (z "law_xw0069_01") 638⟩, ⟨H P "__doc__", .str (z "__doc__") 166, .none⟩, ⟨H P "__package__", .str (z "__package__") 167, .none⟩, ⟨H P "__loader__", .str (z "__loader__") 168, .builtin "__main__.__loader__#opaque"⟩, ⟨H P "__spec__", .str (z "__spec__") 169, .none⟩, ⟨H P "__annotations__", .str (z "__annotations__") 170, .ref 6⟩, ⟨H P "__builtins__", .str (z "__builtins__") 171, .ref 4⟩, ⟨H P "__file__", .str (z "__file__") 173, .str (z "/claim/cut.py") 172⟩, ⟨H P "__cached__", .str (z "__cached__") 174, .none⟩, ⟨H P "RuneError", .str (z "RuneError") 219, .ref 31⟩, ⟨H P "BadKind", .str (z "BadKind") 235, .ref 44⟩, ⟨H P "VOID", .str (z "VOID") 239, .int 0 238⟩, ⟨H P "BOOL", .str (z "BOOL") 241, .int 1 240⟩, ⟨H P "CHAR", .str (z "CHAR") 243, .int 2 242⟩, ⟨H P "I1", .str (z "I1") 245, .int 3 244⟩, ⟨H P "U1", .str (z "U1") 247, .int 4 246⟩, ⟨H P "I2", .str (z "I2") 249, .int 5 248⟩, ⟨H P "U2", .str (z "U2") 251, .int 6 250⟩, ⟨H P "I4", .str (z "I4") 253, .int 7 252⟩, ⟨H P "U4", .str (z "U4") 255, .int 8 254⟩, ⟨H P "I8", .str (z "I8") 257, .int 9 256⟩, ⟨H P "U8", .str (z "U8") 259, .int 10 258⟩, ⟨H P "NINT", .str (z "NINT") 261, .int 11 260⟩, ⟨H P "OBJECT", .str (z "OBJECT") 263, .int 12 262⟩, ⟨H P "STRING", .str (z "STRING") 265, .int 13 264⟩, ⟨H P "NULLK", .str (z "NULLK") 267, .int 14 266⟩, ⟨H P "PRIM_END", .str (z "PRIM_END") 269, .int 16 268⟩, ⟨H P "R_PRIM", .str (z "R_PRIM") 271, .int 1 270⟩, ⟨H P "R_CLASS", .str (z "R_CLASS") 273, .int 2 272⟩, ⟨H P "R_VALUE", .str (z "R_VALUE") 275, .int 3 274⟩, ⟨H P "R_ARRAY", .str (z "R_ARRAY") 277, .int 4 276⟩, ⟨H P "R_BYREF", .str (z "R_BYREF") 279, .int 5 278⟩, ⟨H P "R_VAR", .str (z "R_VAR") 281, .int 6 280⟩, ⟨H P "R_MVAR", .str (z "R_MVAR") 283, .int 7 282⟩, ⟨H P "R_BOXED", .str (z "R_BOXED") 285, .int 8 284⟩, ⟨H P "R_ROREF", .str (z "R_ROREF") 287, .int 9 286⟩, ⟨H P "R_FTN", .str (z "R_FTN") 289, .int 10 288⟩, ⟨H P "R_RAW", .str (z "R_RAW") 291, .int 11 290⟩, ⟨H P "DEEPEST_KIND", .str (z "DEEPEST_KIND") 293, .int 24 292⟩, ⟨H P "HEAVIEST_KIND", .str (z "HEAVIEST_KIND") 295, .int 4096 294⟩, ⟨H P "TID_PRIM", .str (z "TID_PRIM") 324, .ref 47⟩, ⟨H P "PRIM_WORDS", .str (z "PRIM_WORDS") 341, .ref 48⟩, ⟨H P "KindTable", .str (z "KindTable") 398, .ref 79⟩, ⟨H P "inner_kinds", .str (z "inner_kinds") 406, .ref 90⟩, ⟨H P "row_level", .str (z "row_level") 413, .ref 97⟩, ⟨H P "row_length", .str (z "row_length") 420, .ref 104⟩, ⟨H P "check_kind_row", .str (z "check_kind_row") 430, .ref 111⟩, ⟨H P "check_named", .str (z "check_named") 438, .ref 118⟩, ⟨H P "check_args", .str (z "check_args") 447, .ref 125⟩, ⟨H P "may_stand", .str (z "may_stand") 456, .ref 132⟩, ⟨H P "value_kind", .str (z "value_kind") 465, .ref 139⟩, ⟨H P "prim_kind", .str (z "prim_kind") 473, .ref 146⟩, ⟨H P "byref_kind", .str (z "byref_kind") 481, .ref 153⟩, ⟨H P "var_kind", .str (z "var_kind") 489, .ref 160⟩, ⟨H P "mvar_kind", .str (z "mvar_kind") 497, .ref 167⟩, ⟨H P "boxed_kind", .str (z "boxed_kind") 505, .ref 174⟩, ⟨H P "roref_kind", .str (z "roref_kind") 513, .ref 181⟩, ⟨H P "ftn_kind", .str (z "ftn_kind") 523, .ref 188⟩, ⟨H P "raw_kind", .str (z "raw_kind") 531, .ref 195⟩, ⟨H P "is_value", .str (z "is_value") 539, .ref 202⟩, ⟨H P "is_var", .str (z "is_var") 548, .ref 209⟩, ⟨H P "MOST_SHOWN", .str (z "MOST_SHOWN") 550, .int 8 549⟩, ⟨H P "AROUND_WORDS", .str (z "AROUND_WORDS") 566, .ref 210⟩, ⟨H P "show_kind", .str (z "show_kind") 575, .ref 222⟩, ⟨H P "show_level", .str (z "show_level") 587, .ref 229⟩, ⟨H P "show_parts", .str (z "show_parts") 602, .ref 236⟩, ⟨H P "show_core", .str (z "show_core") 616, .ref 243⟩, ⟨H P "show_name", .str (z "show_name") 624, .ref 250⟩, ⟨H P "show_args", .str (z "show_args") 637, .ref 257⟩, ⟨H P "_law_PRIMS", .str (z "_law_PRIMS") 656, .ref 258⟩, ⟨H P "_law_ROUND", .str (z "_law_ROUND") 667, .ref 264⟩, ⟨H P "_law_leaf", .str (z "_law_leaf") 679, .ref 271⟩, ⟨H P "_law_lay", .str (z "_law_lay") 685, .ref 276⟩, ⟨H P "_law_step", .str (z "_law_step") 702, .ref 283⟩, ⟨H P "_law_list", .str (z "_law_list") 710, .ref 290⟩, ⟨H P "_law_words", .str (z "_law_words") 716, .ref 295⟩, ⟨H P "_law_names", .str (z "_law_names") 726, .ref 302⟩, ⟨H P "_law_lawful", .str (z "_law_lawful") 745, .ref 309⟩, ⟨H P "law", .str (z "law") 751, .ref 314⟩] 79, #[]⟩
noncomputable def o11 (P : Params) : Obj := ⟨.type "tuple", none, .seq #[] 0, #[]⟩
noncomputable def o12 (P : Params) : Obj := ⟨.none, none, .fields #[.int 2 0, .int 0 0, .ref 20, .int 7 0, .int 0 0, .ref 40, .int 41 0, .int 0 0, .ref 54, .int 90 0, .int 0 0, .ref 89, .int 99 0, .int 0 0, .ref 96, .int 103 0, .int 0 0, .ref 103, .int 109 0, .int 0 0, .ref 110, .int 131 0, .int 0 0, .ref 117, .int 135 0, .int 0 0, .ref 124, .int 139 0, .int 0 0, .ref 131, .int 144 0, .int 0 0, .ref 138, .int 148 0, .int 0 0, .ref 145, .int 152 0, .int 0 0, .ref 152, .int 154 0, .int 0 0, .ref 159, .int 156 0, .int 0 0, .ref 166, .int 158 0, .int 0 0, .ref 173, .int 160 0, .int 0 0, .ref 180, .int 162 0, .int 0 0, .ref 187, .int 164 0, .int 0 0, .ref 194, .int 166 0, .int 0 0, .ref 201, .int 170 0, .int 0 0, .ref 208, .int 175 0, .int 0 0, .ref 221, .int 177 0, .int 0 0, .ref 228, .int 182 0, .int 0 0, .ref 235, .int 193 0, .int 0 0, .ref 242, .int 205 0, .int 0 0, .ref 249, .int 209 0, .int 0 0, .ref 256, .int 221 0, .int 0 0, .ref 270, .int 235 0, .int 0 0, .ref 275, .int 247 0, .int 0 0, .ref 282, .int 262 0, .int 0 0, .ref 289, .int 268 0, .int 0 0, .ref 294, .int 284 0, .int 0 0, .ref 301, .int 290 0, .int 0 0, .ref 308, .int 313 0, .int 0 0, .ref 313], #[]⟩
noncomputable def o13 (P : Params) : Obj := ⟨.type "code", none, .fields #[.str (z "<module>") 182, .str (z "<module>") 183, .str (z "/claim/cut.py") 184, .int 1 0, .int 0 0, .int 0 0, .int 0 0, .int 0 0, .ref 11, .bool false, .int 181 0, .ref 12, .none, .none, .none, .none, .int 185 0, .int 1 0, .str (z "/claim/cut.py") 186], #[]⟩
noncomputable def o14 (P : Params) : Obj := ⟨.type "frame", none, .plain, #[some (.ref 13), some (.ref 3), some (.ref 3), none, some (.str (z "__main__") 164), none, some (.ref 0)]⟩
noncomputable def o15 (P : Params) : Obj := ⟨.type "tuple", none, .seq #[.type "Exception"] 0, #[]⟩
noncomputable def o16 (P : Params) : Obj := ⟨.type "builtin_function_or_method", none, .fields #[.builtin "type.__prepare__", .type "type"], #[]⟩
noncomputable def o17 (P : Params) : Obj := ⟨.type "dict", none, .dict #[⟨H P "__module__", .str (z "__module__") 196, .str (z "framerune.faults") 187⟩, ⟨H P "__qualname__", .str (z "__qualname__") 198, .str (z "RuneError") 197⟩, ⟨H P "__firstlineno__", .str (z "__firstlineno__") 200, .int 2 199⟩, ⟨H P "__init__", .str (z "__init__") 209, .ref 28⟩, ⟨H P "__static_attributes__", .str (z "__static_attributes__") 212, .ref 29⟩] 5, #[]⟩
noncomputable def o18 (P : Params) : Obj := ⟨.type "tuple", none, .seq #[] 0, #[]⟩
noncomputable def o19 (P : Params) : Obj := ⟨.none, none, .fields #[.int 4 0, .int 4 0, .ref 27], #[]⟩
noncomputable def o20 (P : Params) : Obj := ⟨.type "code", none, .fields #[.str (z "RuneError") 191, .str (z "RuneError") 192, .str (z "/claim/cut.py") 193, .int 2 0, .int 0 0, .int 0 0, .int 0 0, .int 0 0, .ref 18, .bool false, .int 181 0, .ref 19, .none, .none, .none, .none, .int 194 0, .int 2 0, .str (z "/claim/cut.py") 195], #[]⟩
noncomputable def o21 (P : Params) : Obj := ⟨.type "frame", none, .plain, #[some (.ref 20), some (.ref 3), some (.ref 17), none, some (.str (z "framerune.faults") 187), none, some (.ref 0)]⟩
noncomputable def o22 (P : Params) : Obj := ⟨.type "tuple", none, .seq #[] 0, #[]⟩
noncomputable def o23 (P : Params) : Obj := ⟨.none, none, .fields #[], #[]⟩
noncomputable def o24 (P : Params) : Obj := ⟨.type "tuple", none, .seq #[.str (z "self") 204, .str (z "code") 205, .str (z "at") 206] 0, #[]⟩
noncomputable def o25 (P : Params) : Obj := ⟨.type "tuple", none, .seq #[] 0, #[]⟩
noncomputable def o26 (P : Params) : Obj := ⟨.none, none, .func (fd (me 1 0) (z "RuneError.__init__") 0 .none .none), #[]⟩
noncomputable def o27 (P : Params) : Obj := ⟨.type "code", none, .fields #[.str (z "__init__") 201, .str (z "RuneError.__init__") 202, .str (z "/claim/cut.py") 203, .int 4 0, .int 3 0, .int 0 0, .int 0 0, .int 3 0, .ref 22, .bool true, .int 181 0, .ref 23, .none, .ref 24, .ref 25, .ref 26, .int 207 0, .int 4 0, .str (z "/claim/cut.py") 208], #[]⟩
noncomputable def o28 (P : Params) : Obj := ⟨.type "function", none, .func (fd (me 1 0) (z "RuneError.__init__") 3 (.str (z "framerune.faults") 187) (.ref 27)), #[]⟩
noncomputable def o29 (P : Params) : Obj := ⟨.type "tuple", none, .seq #[.str (z "at") 210, .str (z "code") 211] 0, #[]⟩
noncomputable def o30 (P : Params) : Obj := ⟨.type "dict", none, .dict #[⟨H P "__module__", .str (z "__module__") 196, .str (z "framerune.faults") 187⟩, ⟨H P "__firstlineno__", .str (z "__firstlineno__") 200, .int 2 199⟩, ⟨H P "__init__", .str (z "__init__") 209, .ref 28⟩, ⟨H P "__static_attributes__", .str (z "__static_attributes__") 212, .ref 29⟩, ⟨H P "__weakref__", .str (z "__weakref__") 214, .ref 32⟩, ⟨H P "__doc__", .str (z "__doc__") 215, .none⟩] 3, #[]⟩
noncomputable def o31 (P : Params) : Obj := ⟨.type "type", none, .cls ⟨z "RuneError", [.type "Exception"], [.ref 31, .type "Exception", .type "BaseException", .type "object"], 30, z "RuneError", true, [], [.ref 44], false, none, false⟩, #[some (.ref 15), none, some (.str (z "RuneError") 189), some (.str (z "RuneError") 197), some (.builtin "Exception.__new__"), some (.bool true)]⟩
noncomputable def o32 (P : Params) : Obj := ⟨.type "getset_descriptor", none, .fields #[.str (z "__weakref__") 213, .ref 31, .builtin "ExceptionGroup.__weakref__", .none], #[]⟩
noncomputable def o33 (P : Params) : Obj := ⟨.type "super", none, .fields #[.ref 31, .ref 31, .ref 31], #[]⟩
noncomputable def o34 (P : Params) : Obj := ⟨.type "builtin_function_or_method", none, .fields #[.builtin "object.__init_subclass__", .ref 31], #[]⟩
noncomputable def o35 (P : Params) : Obj := ⟨.type "tuple", none, .seq #[.ref 31] 0, #[]⟩
noncomputable def o36 (P : Params) : Obj := ⟨.type "builtin_function_or_method", none, .fields #[.builtin "type.__prepare__", .type "type"], #[]⟩
noncomputable def o37 (P : Params) : Obj := ⟨.type "dict", none, .dict #[⟨H P "__module__", .str (z "__module__") 227, .str (z "framerune.faults") 187⟩, ⟨H P "__qualname__", .str (z "__qualname__") 229, .str (z "BadKind") 228⟩, ⟨H P "__firstlineno__", .str (z "__firstlineno__") 231, .int 7 230⟩, ⟨H P "__static_attributes__", .str (z "__static_attributes__") 232, .ref 42⟩] 4, #[]⟩
noncomputable def o38 (P : Params) : Obj := ⟨.type "tuple", none, .seq #[] 0, #[]⟩
noncomputable def o39 (P : Params) : Obj := ⟨.none, none, .fields #[], #[]⟩
noncomputable def o40 (P : Params) : Obj := ⟨.type "code", none, .fields #[.str (z "BadKind") 222, .str (z "BadKind") 223, .str (z "/claim/cut.py") 224, .int 7 0, .int 0 0, .int 0 0, .int 0 0, .int 0 0, .ref 38, .bool false, .int 181 0, .ref 39, .none, .none, .none, .none, .int 225 0, .int 7 0, .str (z "/claim/cut.py") 226], #[]⟩
noncomputable def o41 (P : Params) : Obj := ⟨.type "frame", none, .plain, #[some (.ref 40), some (.ref 3), some (.ref 37), none, some (.str (z "framerune.faults") 187), none, some (.ref 0)]⟩
noncomputable def o42 (P : Params) : Obj := ⟨.type "tuple", none, .seq #[] 0, #[]⟩
noncomputable def o43 (P : Params) : Obj := ⟨.type "dict", none, .dict #[⟨H P "__module__", .str (z "__module__") 227, .str (z "framerune.faults") 187⟩, ⟨H P "__firstlineno__", .str (z "__firstlineno__") 231, .int 7 230⟩, ⟨H P "__static_attributes__", .str (z "__static_attributes__") 232, .ref 42⟩, ⟨H P "__doc__", .str (z "__doc__") 233, .none⟩] 2, #[]⟩
noncomputable def o44 (P : Params) : Obj := ⟨.type "type", none, .cls ⟨z "BadKind", [.ref 31], [.ref 44, .ref 31, .type "Exception", .type "BaseException", .type "object"], 43, z "BadKind", true, [], [], false, none, false⟩, #[some (.ref 35), none, some (.str (z "BadKind") 220), some (.str (z "BadKind") 228), some (.builtin "Exception.__new__"), some (.bool true)]⟩
noncomputable def o45 (P : Params) : Obj := ⟨.type "super", none, .fields #[.ref 44, .ref 44, .ref 44], #[]⟩
noncomputable def o46 (P : Params) : Obj := ⟨.type "builtin_function_or_method", none, .fields #[.builtin "object.__init_subclass__", .ref 44], #[]⟩
noncomputable def o47 (P : Params) : Obj := ⟨.type "dict", none, .dict #[⟨20, .int 20 296, .int 0 238⟩, ⟨9, .int 9 297, .int 1 240⟩, ⟨10, .int 10 298, .int 2 242⟩, ⟨11, .int 11 299, .int 3 244⟩, ⟨12, .int 12 300, .int 4 246⟩, ⟨13, .int 13 301, .int 5 248⟩, ⟨14, .int 14 302, .int 6 250⟩, ⟨15, .int 15 303, .int 7 252⟩, ⟨16, .int 16 304, .int 8 254⟩, ⟨17, .int 17 305, .int 9 256⟩, ⟨18, .int 18 306, .int 10 258⟩, ⟨19, .int 19 307, .int 11 260⟩, ⟨1, .int 1 308, .int 12 262⟩, ⟨4, .int 4 309, .int 13 264⟩] 14, #[]⟩
noncomputable def o48 (P : Params) : Obj := ⟨.type "tuple", none, .seq #[.str (z "void") 325, .str (z "bool") 326, .str (z "char") 327, .str (z "sbyte") 328, .str (z "byte") 329, .str (z "short") 330, .str (z "ushort") 331, .str (z "int") 332, .str (z "uint") 333, .str (z "long") 334, .str (z "ulong") 335, .str (z "native int") 336, .str (z "object") 337, .str (z "string") 338, .str (z "null") 339, .str (z "?") 340] 0, #[]⟩
noncomputable def o49 (P : Params) : Obj := ⟨.type "tuple", none, .seq #[] 0, #[]⟩
noncomputable def o50 (P : Params) : Obj := ⟨.type "builtin_function_or_method", none, .fields #[.builtin "type.__prepare__", .type "type"], #[]⟩
noncomputable def o51 (P : Params) : Obj := ⟨.type "dict", none, .dict #[⟨H P "__module__", .str (z "__module__") 349, .str (z "framerune.kinds") 236⟩, ⟨H P "__qualname__", .str (z "__qualname__") 351, .str (z "KindTable") 350⟩, ⟨H P "__firstlineno__", .str (z "__firstlineno__") 353, .int 41 352⟩, ⟨H P "__init__", .str (z "__init__") 362, .ref 62⟩, ⟨H P "row", .str (z "row") 370, .ref 69⟩, ⟨H P "put", .str (z "put") 385, .ref 76⟩, ⟨H P "__static_attributes__", .str (z "__static_attributes__") 391, .ref 77⟩] 7, #[]⟩
noncomputable def o52 (P : Params) : Obj := ⟨.type "tuple", none, .seq #[] 0, #[]⟩
noncomputable def o53 (P : Params) : Obj := ⟨.none, none, .fields #[.int 43 0, .int 4 0, .ref 61, .int 57 0, .int 4 0, .ref 68, .int 62 0, .int 4 0, .ref 75], #[]⟩
noncomputable def o54 (P : Params) : Obj := ⟨.type "code", none, .fields #[.str (z "KindTable") 344, .str (z "KindTable") 345, .str (z "/claim/cut.py") 346, .int 41 0, .int 0 0, .int 0 0, .int 0 0, .int 0 0, .ref 52, .bool false, .int 181 0, .ref 53, .none, .none, .none, .none, .int 347 0, .int 41 0, .str (z "/claim/cut.py") 348], #[]⟩
noncomputable def o55 (P : Params) : Obj := ⟨.type "frame", none, .plain, #[some (.ref 54), some (.ref 3), some (.ref 51), none, some (.str (z "framerune.kinds") 236), none, some (.ref 0)]⟩
noncomputable def o56 (P : Params) : Obj := ⟨.type "tuple", none, .seq #[] 0, #[]⟩
noncomputable def o57 (P : Params) : Obj := ⟨.none, none, .fields #[], #[]⟩
noncomputable def o58 (P : Params) : Obj := ⟨.type "tuple", none, .seq #[.str (z "self") 357, .str (z "number") 358, .str (z "row") 359] 0, #[]⟩
noncomputable def o59 (P : Params) : Obj := ⟨.type "tuple", none, .seq #[] 0, #[]⟩
noncomputable def o60 (P : Params) : Obj := ⟨.none, none, .func (fd (me 35 0) (z "KindTable.__init__") 0 .none .none), #[]⟩
noncomputable def o61 (P : Params) : Obj := ⟨.type "code", none, .fields #[.str (z "__init__") 354, .str (z "KindTable.__init__") 355, .str (z "/claim/cut.py") 356, .int 43 0, .int 1 0, .int 0 0, .int 0 0, .int 3 0, .ref 56, .bool true, .int 181 0, .ref 57, .none, .ref 58, .ref 59, .ref 60, .int 360 0, .int 43 0, .str (z "/claim/cut.py") 361], #[]⟩
noncomputable def o62 (P : Params) : Obj := ⟨.type "function", none, .func (fd (me 35 0) (z "KindTable.__init__") 3 (.str (z "framerune.kinds") 236) (.ref 61)), #[]⟩
noncomputable def o63 (P : Params) : Obj := ⟨.type "tuple", none, .seq #[] 0, #[]⟩
noncomputable def o64 (P : Params) : Obj := ⟨.none, none, .fields #[], #[]⟩
noncomputable def o65 (P : Params) : Obj := ⟨.type "tuple", none, .seq #[.str (z "self") 366, .str (z "k") 367] 0, #[]⟩
noncomputable def o66 (P : Params) : Obj := ⟨.type "tuple", none, .seq #[] 0, #[]⟩
noncomputable def o67 (P : Params) : Obj := ⟨.none, none, .func (fd (me 35 1) (z "KindTable.row") 0 .none .none), #[]⟩
noncomputable def o68 (P : Params) : Obj := ⟨.type "code", none, .fields #[.str (z "row") 363, .str (z "KindTable.row") 364, .str (z "/claim/cut.py") 365, .int 57 0, .int 2 0, .int 0 0, .int 0 0, .int 3 0, .ref 63, .bool true, .int 181 0, .ref 64, .none, .ref 65, .ref 66, .ref 67, .int 368 0, .int 57 0, .str (z "/claim/cut.py") 369], #[]⟩
noncomputable def o69 (P : Params) : Obj := ⟨.type "function", none, .func (fd (me 35 1) (z "KindTable.row") 3 (.str (z "framerune.kinds") 236) (.ref 68)), #[]⟩
noncomputable def o70 (P : Params) : Obj := ⟨.type "tuple", none, .seq #[] 0, #[]⟩
noncomputable def o71 (P : Params) : Obj := ⟨.none, none, .fields #[], #[]⟩
noncomputable def o72 (P : Params) : Obj := ⟨.type "tuple", none, .seq #[.str (z "self") 374, .str (z "row") 375, .str (z "found") 376, .str (z "depth") 377, .str (z "weight") 378, .str (z "opened") 379, .str (z "level") 380, .str (z "inner") 381, .str (z "k") 382] 0, #[]⟩
noncomputable def o73 (P : Params) : Obj := ⟨.type "tuple", none, .seq #[] 0, #[]⟩
noncomputable def o74 (P : Params) : Obj := ⟨.none, none, .func (fd (me 35 2) (z "KindTable.put") 0 .none .none), #[]⟩
noncomputable def o75 (P : Params) : Obj := ⟨.type "code", none, .fields #[.str (z "put") 371, .str (z "KindTable.put") 372, .str (z "/claim/cut.py") 373, .int 62 0, .int 2 0, .int 0 0, .int 0 0, .int 3 0, .ref 70, .bool true, .int 181 0, .ref 71, .none, .ref 72, .ref 73, .ref 74, .int 383 0, .int 62 0, .str (z "/claim/cut.py") 384], #[]⟩
noncomputable def o76 (P : Params) : Obj := ⟨.type "function", none, .func (fd (me 35 2) (z "KindTable.put") 3 (.str (z "framerune.kinds") 236) (.ref 75)), #[]⟩
noncomputable def o77 (P : Params) : Obj := ⟨.type "tuple", none, .seq #[.str (z "depths") 386, .str (z "index") 387, .str (z "opens") 388, .str (z "rows") 389, .str (z "weights") 390] 0, #[]⟩
noncomputable def o78 (P : Params) : Obj := ⟨.type "dict", none, .dict #[⟨H P "__module__", .str (z "__module__") 349, .str (z "framerune.kinds") 236⟩, ⟨H P "__firstlineno__", .str (z "__firstlineno__") 353, .int 41 352⟩, ⟨H P "__init__", .str (z "__init__") 362, .ref 62⟩, ⟨H P "row", .str (z "row") 370, .ref 69⟩, ⟨H P "put", .str (z "put") 385, .ref 76⟩, ⟨H P "__static_attributes__", .str (z "__static_attributes__") 391, .ref 77⟩, ⟨H P "__dict__", .str (z "__dict__") 393, .ref 80⟩, ⟨H P "__weakref__", .str (z "__weakref__") 395, .ref 81⟩, ⟨H P "__doc__", .str (z "__doc__") 396, .none⟩] 4, #[]⟩
noncomputable def o79 (P : Params) : Obj := ⟨.type "type", none, .cls ⟨z "KindTable", [.type "object"], [.ref 79, .type "object"], 78, z "KindTable", true, [], [], false, none, false⟩, #[none, none, some (.str (z "KindTable") 342), some (.str (z "KindTable") 350), some (.builtin "object.__new__"), some (.bool true)]⟩
noncomputable def o80 (P : Params) : Obj := ⟨.type "getset_descriptor", none, .fields #[.str (z "__dict__") 392, .ref 79, .builtin "function.__dict__", .builtin "function.__dict__#set"], #[]⟩
noncomputable def o81 (P : Params) : Obj := ⟨.type "getset_descriptor", none, .fields #[.str (z "__weakref__") 394, .ref 79, .builtin "ExceptionGroup.__weakref__", .none], #[]⟩
noncomputable def o82 (P : Params) : Obj := ⟨.type "super", none, .fields #[.ref 79, .ref 79, .ref 79], #[]⟩
noncomputable def o83 (P : Params) : Obj := ⟨.type "builtin_function_or_method", none, .fields #[.builtin "object.__init_subclass__", .ref 79], #[]⟩
noncomputable def o84 (P : Params) : Obj := ⟨.type "tuple", none, .seq #[] 0, #[]⟩
noncomputable def o85 (P : Params) : Obj := ⟨.none, none, .fields #[], #[]⟩
noncomputable def o86 (P : Params) : Obj := ⟨.type "tuple", none, .seq #[.str (z "row") 402, .str (z "sort") 403] 0, #[]⟩
noncomputable def o87 (P : Params) : Obj := ⟨.type "tuple", none, .seq #[] 0, #[]⟩
noncomputable def o88 (P : Params) : Obj := ⟨.none, none, .func (fd (st 36) (z "inner_kinds") 0 .none .none), #[]⟩
noncomputable def o89 (P : Params) : Obj := ⟨.type "code", none, .fields #[.str (z "inner_kinds") 399, .str (z "inner_kinds") 400, .str (z "/claim/cut.py") 401, .int 90 0, .int 1 0, .int 0 0, .int 0 0, .int 3 0, .ref 84, .bool true, .int 181 0, .ref 85, .none, .ref 86, .ref 87, .ref 88, .int 404 0, .int 90 0, .str (z "/claim/cut.py") 405], #[]⟩
noncomputable def o90 (P : Params) : Obj := ⟨.type "function", none, .func (fd (st 36) (z "inner_kinds") 3 (.str (z "framerune.kinds") 236) (.ref 89)), #[]⟩
noncomputable def o91 (P : Params) : Obj := ⟨.type "tuple", none, .seq #[] 0, #[]⟩
noncomputable def o92 (P : Params) : Obj := ⟨.none, none, .fields #[], #[]⟩
noncomputable def o93 (P : Params) : Obj := ⟨.type "tuple", none, .seq #[.str (z "sort") 410] 0, #[]⟩
noncomputable def o94 (P : Params) : Obj := ⟨.type "tuple", none, .seq #[] 0, #[]⟩
noncomputable def o95 (P : Params) : Obj := ⟨.none, none, .func (fd (st 37) (z "row_level") 0 .none .none), #[]⟩
noncomputable def o96 (P : Params) : Obj := ⟨.type "code", none, .fields #[.str (z "row_level") 407, .str (z "row_level") 408, .str (z "/claim/cut.py") 409, .int 99 0, .int 1 0, .int 0 0, .int 0 0, .int 3 0, .ref 91, .bool true, .int 181 0, .ref 92, .none, .ref 93, .ref 94, .ref 95, .int 411 0, .int 99 0, .str (z "/claim/cut.py") 412], #[]⟩
noncomputable def o97 (P : Params) : Obj := ⟨.type "function", none, .func (fd (st 37) (z "row_level") 3 (.str (z "framerune.kinds") 236) (.ref 96)), #[]⟩
noncomputable def o98 (P : Params) : Obj := ⟨.type "tuple", none, .seq #[] 0, #[]⟩
noncomputable def o99 (P : Params) : Obj := ⟨.none, none, .fields #[], #[]⟩
noncomputable def o100 (P : Params) : Obj := ⟨.type "tuple", none, .seq #[.str (z "sort") 417] 0, #[]⟩
noncomputable def o101 (P : Params) : Obj := ⟨.type "tuple", none, .seq #[] 0, #[]⟩
noncomputable def o102 (P : Params) : Obj := ⟨.none, none, .func (fd (st 38) (z "row_length") 0 .none .none), #[]⟩
noncomputable def o103 (P : Params) : Obj := ⟨.type "code", none, .fields #[.str (z "row_length") 414, .str (z "row_length") 415, .str (z "/claim/cut.py") 416, .int 103 0, .int 1 0, .int 0 0, .int 0 0, .int 3 0, .ref 98, .bool true, .int 181 0, .ref 99, .none, .ref 100, .ref 101, .ref 102, .int 418 0, .int 103 0, .str (z "/claim/cut.py") 419], #[]⟩
noncomputable def o104 (P : Params) : Obj := ⟨.type "function", none, .func (fd (st 38) (z "row_length") 3 (.str (z "framerune.kinds") 236) (.ref 103)), #[]⟩
noncomputable def o105 (P : Params) : Obj := ⟨.type "tuple", none, .seq #[] 0, #[]⟩
noncomputable def o106 (P : Params) : Obj := ⟨.none, none, .fields #[], #[]⟩
noncomputable def o107 (P : Params) : Obj := ⟨.type "tuple", none, .seq #[.str (z "kt") 424, .str (z "row") 425, .str (z "sort") 426, .str (z "inner") 427] 0, #[]⟩
noncomputable def o108 (P : Params) : Obj := ⟨.type "tuple", none, .seq #[] 0, #[]⟩
noncomputable def o109 (P : Params) : Obj := ⟨.none, none, .func (fd (st 39) (z "check_kind_row") 0 .none .none), #[]⟩
noncomputable def o110 (P : Params) : Obj := ⟨.type "code", none, .fields #[.str (z "check_kind_row") 421, .str (z "check_kind_row") 422, .str (z "/claim/cut.py") 423, .int 109 0, .int 2 0, .int 0 0, .int 0 0, .int 3 0, .ref 105, .bool true, .int 181 0, .ref 106, .none, .ref 107, .ref 108, .ref 109, .int 428 0, .int 109 0, .str (z "/claim/cut.py") 429], #[]⟩
noncomputable def o111 (P : Params) : Obj := ⟨.type "function", none, .func (fd (st 39) (z "check_kind_row") 3 (.str (z "framerune.kinds") 236) (.ref 110)), #[]⟩
noncomputable def o112 (P : Params) : Obj := ⟨.type "tuple", none, .seq #[] 0, #[]⟩
noncomputable def o113 (P : Params) : Obj := ⟨.none, none, .fields #[], #[]⟩
noncomputable def o114 (P : Params) : Obj := ⟨.type "tuple", none, .seq #[.str (z "kt") 434, .str (z "row") 435] 0, #[]⟩
noncomputable def o115 (P : Params) : Obj := ⟨.type "tuple", none, .seq #[] 0, #[]⟩
noncomputable def o116 (P : Params) : Obj := ⟨.none, none, .func (fd (st 40) (z "check_named") 0 .none .none), #[]⟩
noncomputable def o117 (P : Params) : Obj := ⟨.type "code", none, .fields #[.str (z "check_named") 431, .str (z "check_named") 432, .str (z "/claim/cut.py") 433, .int 131 0, .int 2 0, .int 0 0, .int 0 0, .int 3 0, .ref 112, .bool true, .int 181 0, .ref 113, .none, .ref 114, .ref 115, .ref 116, .int 436 0, .int 131 0, .str (z "/claim/cut.py") 437], #[]⟩
noncomputable def o118 (P : Params) : Obj := ⟨.type "function", none, .func (fd (st 40) (z "check_named") 3 (.str (z "framerune.kinds") 236) (.ref 117)), #[]⟩
noncomputable def o119 (P : Params) : Obj := ⟨.type "tuple", none, .seq #[] 0, #[]⟩
noncomputable def o120 (P : Params) : Obj := ⟨.none, none, .fields #[], #[]⟩
noncomputable def o121 (P : Params) : Obj := ⟨.type "tuple", none, .seq #[.str (z "kt") 442, .str (z "args") 443, .str (z "arg") 444] 0, #[]⟩
noncomputable def o122 (P : Params) : Obj := ⟨.type "tuple", none, .seq #[] 0, #[]⟩
noncomputable def o123 (P : Params) : Obj := ⟨.none, none, .func (fd (st 41) (z "check_args") 0 .none .none), #[]⟩
noncomputable def o124 (P : Params) : Obj := ⟨.type "code", none, .fields #[.str (z "check_args") 439, .str (z "check_args") 440, .str (z "/claim/cut.py") 441, .int 135 0, .int 2 0, .int 0 0, .int 0 0, .int 3 0, .ref 119, .bool true, .int 181 0, .ref 120, .none, .ref 121, .ref 122, .ref 123, .int 445 0, .int 135 0, .str (z "/claim/cut.py") 446], #[]⟩
noncomputable def o125 (P : Params) : Obj := ⟨.type "function", none, .func (fd (st 41) (z "check_args") 3 (.str (z "framerune.kinds") 236) (.ref 124)), #[]⟩
noncomputable def o126 (P : Params) : Obj := ⟨.type "tuple", none, .seq #[] 0, #[]⟩
noncomputable def o127 (P : Params) : Obj := ⟨.none, none, .fields #[], #[]⟩
noncomputable def o128 (P : Params) : Obj := ⟨.type "tuple", none, .seq #[.str (z "kt") 451, .str (z "k") 452, .str (z "sort") 453] 0, #[]⟩
noncomputable def o129 (P : Params) : Obj := ⟨.type "tuple", none, .seq #[] 0, #[]⟩
noncomputable def o130 (P : Params) : Obj := ⟨.none, none, .func (fd (st 42) (z "may_stand") 0 .none .none), #[]⟩
noncomputable def o131 (P : Params) : Obj := ⟨.type "code", none, .fields #[.str (z "may_stand") 448, .str (z "may_stand") 449, .str (z "/claim/cut.py") 450, .int 139 0, .int 2 0, .int 0 0, .int 0 0, .int 3 0, .ref 126, .bool true, .int 181 0, .ref 127, .none, .ref 128, .ref 129, .ref 130, .int 454 0, .int 139 0, .str (z "/claim/cut.py") 455], #[]⟩
noncomputable def o132 (P : Params) : Obj := ⟨.type "function", none, .func (fd (st 42) (z "may_stand") 3 (.str (z "framerune.kinds") 236) (.ref 131)), #[]⟩
noncomputable def o133 (P : Params) : Obj := ⟨.type "tuple", none, .seq #[] 0, #[]⟩
noncomputable def o134 (P : Params) : Obj := ⟨.none, none, .fields #[], #[]⟩
noncomputable def o135 (P : Params) : Obj := ⟨.type "tuple", none, .seq #[.str (z "kt") 460, .str (z "tid") 461, .str (z "args") 462] 0, #[]⟩
noncomputable def o136 (P : Params) : Obj := ⟨.type "tuple", none, .seq #[] 0, #[]⟩
noncomputable def o137 (P : Params) : Obj := ⟨.none, none, .func (fd (st 43) (z "value_kind") 0 .none .none), #[]⟩
noncomputable def o138 (P : Params) : Obj := ⟨.type "code", none, .fields #[.str (z "value_kind") 457, .str (z "value_kind") 458, .str (z "/claim/cut.py") 459, .int 144 0, .int 3 0, .int 0 0, .int 0 0, .int 3 0, .ref 133, .bool true, .int 181 0, .ref 134, .none, .ref 135, .ref 136, .ref 137, .int 463 0, .int 144 0, .str (z "/claim/cut.py") 464], #[]⟩
noncomputable def o139 (P : Params) : Obj := ⟨.type "function", none, .func (fd (st 43) (z "value_kind") 3 (.str (z "framerune.kinds") 236) (.ref 138)), #[]⟩
noncomputable def o140 (P : Params) : Obj := ⟨.type "tuple", none, .seq #[] 0, #[]⟩
noncomputable def o141 (P : Params) : Obj := ⟨.none, none, .fields #[], #[]⟩
noncomputable def o142 (P : Params) : Obj := ⟨.type "tuple", none, .seq #[.str (z "tid") 469, .str (z "args") 470] 0, #[]⟩
noncomputable def o143 (P : Params) : Obj := ⟨.type "tuple", none, .seq #[] 0, #[]⟩
noncomputable def o144 (P : Params) : Obj := ⟨.none, none, .func (fd (st 44) (z "prim_kind") 0 .none .none), #[]⟩
noncomputable def o145 (P : Params) : Obj := ⟨.type "code", none, .fields #[.str (z "prim_kind") 466, .str (z "prim_kind") 467, .str (z "/claim/cut.py") 468, .int 148 0, .int 2 0, .int 0 0, .int 0 0, .int 3 0, .ref 140, .bool true, .int 181 0, .ref 141, .none, .ref 142, .ref 143, .ref 144, .int 471 0, .int 148 0, .str (z "/claim/cut.py") 472], #[]⟩
noncomputable def o146 (P : Params) : Obj := ⟨.type "function", none, .func (fd (st 44) (z "prim_kind") 3 (.str (z "framerune.kinds") 236) (.ref 145)), #[]⟩
noncomputable def o147 (P : Params) : Obj := ⟨.type "tuple", none, .seq #[] 0, #[]⟩
noncomputable def o148 (P : Params) : Obj := ⟨.none, none, .fields #[], #[]⟩
noncomputable def o149 (P : Params) : Obj := ⟨.type "tuple", none, .seq #[.str (z "kt") 477, .str (z "inner") 478] 0, #[]⟩
noncomputable def o150 (P : Params) : Obj := ⟨.type "tuple", none, .seq #[] 0, #[]⟩
noncomputable def o151 (P : Params) : Obj := ⟨.none, none, .func (fd (st 45) (z "byref_kind") 0 .none .none), #[]⟩
noncomputable def o152 (P : Params) : Obj := ⟨.type "code", none, .fields #[.str (z "byref_kind") 474, .str (z "byref_kind") 475, .str (z "/claim/cut.py") 476, .int 152 0, .int 2 0, .int 0 0, .int 0 0, .int 3 0, .ref 147, .bool true, .int 181 0, .ref 148, .none, .ref 149, .ref 150, .ref 151, .int 479 0, .int 152 0, .str (z "/claim/cut.py") 480], #[]⟩
noncomputable def o153 (P : Params) : Obj := ⟨.type "function", none, .func (fd (st 45) (z "byref_kind") 3 (.str (z "framerune.kinds") 236) (.ref 152)), #[]⟩
noncomputable def o154 (P : Params) : Obj := ⟨.type "tuple", none, .seq #[] 0, #[]⟩
noncomputable def o155 (P : Params) : Obj := ⟨.none, none, .fields #[], #[]⟩
noncomputable def o156 (P : Params) : Obj := ⟨.type "tuple", none, .seq #[.str (z "kt") 485, .str (z "i") 486] 0, #[]⟩
noncomputable def o157 (P : Params) : Obj := ⟨.type "tuple", none, .seq #[] 0, #[]⟩
noncomputable def o158 (P : Params) : Obj := ⟨.none, none, .func (fd (st 46) (z "var_kind") 0 .none .none), #[]⟩
noncomputable def o159 (P : Params) : Obj := ⟨.type "code", none, .fields #[.str (z "var_kind") 482, .str (z "var_kind") 483, .str (z "/claim/cut.py") 484, .int 154 0, .int 2 0, .int 0 0, .int 0 0, .int 3 0, .ref 154, .bool true, .int 181 0, .ref 155, .none, .ref 156, .ref 157, .ref 158, .int 487 0, .int 154 0, .str (z "/claim/cut.py") 488], #[]⟩
noncomputable def o160 (P : Params) : Obj := ⟨.type "function", none, .func (fd (st 46) (z "var_kind") 3 (.str (z "framerune.kinds") 236) (.ref 159)), #[]⟩
noncomputable def o161 (P : Params) : Obj := ⟨.type "tuple", none, .seq #[] 0, #[]⟩
noncomputable def o162 (P : Params) : Obj := ⟨.none, none, .fields #[], #[]⟩
noncomputable def o163 (P : Params) : Obj := ⟨.type "tuple", none, .seq #[.str (z "kt") 493, .str (z "i") 494] 0, #[]⟩
noncomputable def o164 (P : Params) : Obj := ⟨.type "tuple", none, .seq #[] 0, #[]⟩
noncomputable def o165 (P : Params) : Obj := ⟨.none, none, .func (fd (st 47) (z "mvar_kind") 0 .none .none), #[]⟩
noncomputable def o166 (P : Params) : Obj := ⟨.type "code", none, .fields #[.str (z "mvar_kind") 490, .str (z "mvar_kind") 491, .str (z "/claim/cut.py") 492, .int 156 0, .int 2 0, .int 0 0, .int 0 0, .int 3 0, .ref 161, .bool true, .int 181 0, .ref 162, .none, .ref 163, .ref 164, .ref 165, .int 495 0, .int 156 0, .str (z "/claim/cut.py") 496], #[]⟩
noncomputable def o167 (P : Params) : Obj := ⟨.type "function", none, .func (fd (st 47) (z "mvar_kind") 3 (.str (z "framerune.kinds") 236) (.ref 166)), #[]⟩
noncomputable def o168 (P : Params) : Obj := ⟨.type "tuple", none, .seq #[] 0, #[]⟩
noncomputable def o169 (P : Params) : Obj := ⟨.none, none, .fields #[], #[]⟩
noncomputable def o170 (P : Params) : Obj := ⟨.type "tuple", none, .seq #[.str (z "kt") 501, .str (z "k") 502] 0, #[]⟩
noncomputable def o171 (P : Params) : Obj := ⟨.type "tuple", none, .seq #[] 0, #[]⟩
noncomputable def o172 (P : Params) : Obj := ⟨.none, none, .func (fd (st 48) (z "boxed_kind") 0 .none .none), #[]⟩
noncomputable def o173 (P : Params) : Obj := ⟨.type "code", none, .fields #[.str (z "boxed_kind") 498, .str (z "boxed_kind") 499, .str (z "/claim/cut.py") 500, .int 158 0, .int 2 0, .int 0 0, .int 0 0, .int 3 0, .ref 168, .bool true, .int 181 0, .ref 169, .none, .ref 170, .ref 171, .ref 172, .int 503 0, .int 158 0, .str (z "/claim/cut.py") 504], #[]⟩
noncomputable def o174 (P : Params) : Obj := ⟨.type "function", none, .func (fd (st 48) (z "boxed_kind") 3 (.str (z "framerune.kinds") 236) (.ref 173)), #[]⟩
noncomputable def o175 (P : Params) : Obj := ⟨.type "tuple", none, .seq #[] 0, #[]⟩
noncomputable def o176 (P : Params) : Obj := ⟨.none, none, .fields #[], #[]⟩
noncomputable def o177 (P : Params) : Obj := ⟨.type "tuple", none, .seq #[.str (z "kt") 509, .str (z "inner") 510] 0, #[]⟩
noncomputable def o178 (P : Params) : Obj := ⟨.type "tuple", none, .seq #[] 0, #[]⟩
noncomputable def o179 (P : Params) : Obj := ⟨.none, none, .func (fd (st 49) (z "roref_kind") 0 .none .none), #[]⟩
noncomputable def o180 (P : Params) : Obj := ⟨.type "code", none, .fields #[.str (z "roref_kind") 506, .str (z "roref_kind") 507, .str (z "/claim/cut.py") 508, .int 160 0, .int 2 0, .int 0 0, .int 0 0, .int 3 0, .ref 175, .bool true, .int 181 0, .ref 176, .none, .ref 177, .ref 178, .ref 179, .int 511 0, .int 160 0, .str (z "/claim/cut.py") 512], #[]⟩
noncomputable def o181 (P : Params) : Obj := ⟨.type "function", none, .func (fd (st 49) (z "roref_kind") 3 (.str (z "framerune.kinds") 236) (.ref 180)), #[]⟩
noncomputable def o182 (P : Params) : Obj := ⟨.type "tuple", none, .seq #[] 0, #[]⟩
noncomputable def o183 (P : Params) : Obj := ⟨.none, none, .fields #[], #[]⟩
noncomputable def o184 (P : Params) : Obj := ⟨.type "tuple", none, .seq #[.str (z "kt") 517, .str (z "owner") 518, .str (z "mid") 519, .str (z "margs") 520] 0, #[]⟩
noncomputable def o185 (P : Params) : Obj := ⟨.type "tuple", none, .seq #[] 0, #[]⟩
noncomputable def o186 (P : Params) : Obj := ⟨.none, none, .func (fd (st 50) (z "ftn_kind") 0 .none .none), #[]⟩
noncomputable def o187 (P : Params) : Obj := ⟨.type "code", none, .fields #[.str (z "ftn_kind") 514, .str (z "ftn_kind") 515, .str (z "/claim/cut.py") 516, .int 162 0, .int 4 0, .int 0 0, .int 0 0, .int 3 0, .ref 182, .bool true, .int 181 0, .ref 183, .none, .ref 184, .ref 185, .ref 186, .int 521 0, .int 162 0, .str (z "/claim/cut.py") 522], #[]⟩
noncomputable def o188 (P : Params) : Obj := ⟨.type "function", none, .func (fd (st 50) (z "ftn_kind") 3 (.str (z "framerune.kinds") 236) (.ref 187)), #[]⟩
noncomputable def o189 (P : Params) : Obj := ⟨.type "tuple", none, .seq #[] 0, #[]⟩
noncomputable def o190 (P : Params) : Obj := ⟨.none, none, .fields #[], #[]⟩
noncomputable def o191 (P : Params) : Obj := ⟨.type "tuple", none, .seq #[.str (z "kt") 527, .str (z "owner") 528] 0, #[]⟩
noncomputable def o192 (P : Params) : Obj := ⟨.type "tuple", none, .seq #[] 0, #[]⟩
noncomputable def o193 (P : Params) : Obj := ⟨.none, none, .func (fd (st 51) (z "raw_kind") 0 .none .none), #[]⟩
noncomputable def o194 (P : Params) : Obj := ⟨.type "code", none, .fields #[.str (z "raw_kind") 524, .str (z "raw_kind") 525, .str (z "/claim/cut.py") 526, .int 164 0, .int 2 0, .int 0 0, .int 0 0, .int 3 0, .ref 189, .bool true, .int 181 0, .ref 190, .none, .ref 191, .ref 192, .ref 193, .int 529 0, .int 164 0, .str (z "/claim/cut.py") 530], #[]⟩
noncomputable def o195 (P : Params) : Obj := ⟨.type "function", none, .func (fd (st 51) (z "raw_kind") 3 (.str (z "framerune.kinds") 236) (.ref 194)), #[]⟩
noncomputable def o196 (P : Params) : Obj := ⟨.type "tuple", none, .seq #[] 0, #[]⟩
noncomputable def o197 (P : Params) : Obj := ⟨.none, none, .fields #[], #[]⟩
noncomputable def o198 (P : Params) : Obj := ⟨.type "tuple", none, .seq #[.str (z "kt") 535, .str (z "k") 536] 0, #[]⟩
noncomputable def o199 (P : Params) : Obj := ⟨.type "tuple", none, .seq #[] 0, #[]⟩
noncomputable def o200 (P : Params) : Obj := ⟨.none, none, .func (fd (st 52) (z "is_value") 0 .none .none), #[]⟩
noncomputable def o201 (P : Params) : Obj := ⟨.type "code", none, .fields #[.str (z "is_value") 532, .str (z "is_value") 533, .str (z "/claim/cut.py") 534, .int 166 0, .int 2 0, .int 0 0, .int 0 0, .int 3 0, .ref 196, .bool true, .int 181 0, .ref 197, .none, .ref 198, .ref 199, .ref 200, .int 537 0, .int 166 0, .str (z "/claim/cut.py") 538], #[]⟩
noncomputable def o202 (P : Params) : Obj := ⟨.type "function", none, .func (fd (st 52) (z "is_value") 3 (.str (z "framerune.kinds") 236) (.ref 201)), #[]⟩
noncomputable def o203 (P : Params) : Obj := ⟨.type "tuple", none, .seq #[] 0, #[]⟩
noncomputable def o204 (P : Params) : Obj := ⟨.none, none, .fields #[], #[]⟩
noncomputable def o205 (P : Params) : Obj := ⟨.type "tuple", none, .seq #[.str (z "kt") 543, .str (z "k") 544, .str (z "sort") 545] 0, #[]⟩
noncomputable def o206 (P : Params) : Obj := ⟨.type "tuple", none, .seq #[] 0, #[]⟩
noncomputable def o207 (P : Params) : Obj := ⟨.none, none, .func (fd (st 53) (z "is_var") 0 .none .none), #[]⟩
noncomputable def o208 (P : Params) : Obj := ⟨.type "code", none, .fields #[.str (z "is_var") 540, .str (z "is_var") 541, .str (z "/claim/cut.py") 542, .int 170 0, .int 2 0, .int 0 0, .int 0 0, .int 3 0, .ref 203, .bool true, .int 181 0, .ref 204, .none, .ref 205, .ref 206, .ref 207, .int 546 0, .int 170 0, .str (z "/claim/cut.py") 547], #[]⟩
noncomputable def o209 (P : Params) : Obj := ⟨.type "function", none, .func (fd (st 53) (z "is_var") 3 (.str (z "framerune.kinds") 236) (.ref 208)), #[]⟩
noncomputable def o210 (P : Params) : Obj := ⟨.type "dict", none, .dict #[⟨4, .int 4 276, .ref 211⟩, ⟨5, .int 5 278, .ref 212⟩, ⟨8, .int 8 284, .ref 213⟩, ⟨9, .int 9 286, .ref 214⟩, ⟨11, .int 11 290, .ref 215⟩] 5, #[]⟩
noncomputable def o211 (P : Params) : Obj := ⟨.type "tuple", none, .seq #[.str (z "") 551, .str (z "[]") 552] 0, #[]⟩
noncomputable def o212 (P : Params) : Obj := ⟨.type "tuple", none, .seq #[.str (z "") 553, .str (z "&") 554] 0, #[]⟩
noncomputable def o213 (P : Params) : Obj := ⟨.type "tuple", none, .seq #[.str (z "boxed ") 555, .str (z "") 556] 0, #[]⟩
noncomputable def o214 (P : Params) : Obj := ⟨.type "tuple", none, .seq #[.str (z "readonly ") 557, .str (z "&") 558] 0, #[]⟩
noncomputable def o215 (P : Params) : Obj := ⟨.type "tuple", none, .seq #[.str (z "raw ") 559, .str (z "") 560] 0, #[]⟩
noncomputable def o216 (P : Params) : Obj := ⟨.type "tuple", none, .seq #[] 0, #[]⟩
noncomputable def o217 (P : Params) : Obj := ⟨.none, none, .fields #[], #[]⟩
noncomputable def o218 (P : Params) : Obj := ⟨.type "tuple", none, .seq #[.str (z "kt") 570, .str (z "k") 571, .str (z "names") 572] 0, #[]⟩
noncomputable def o219 (P : Params) : Obj := ⟨.type "tuple", none, .seq #[] 0, #[]⟩
noncomputable def o220 (P : Params) : Obj := ⟨.none, none, .func (fd (st 56) (z "show_kind") 0 .none .none), #[]⟩
noncomputable def o221 (P : Params) : Obj := ⟨.type "code", none, .fields #[.str (z "show_kind") 567, .str (z "show_kind") 568, .str (z "/claim/cut.py") 569, .int 175 0, .int 3 0, .int 0 0, .int 0 0, .int 3 0, .ref 216, .bool true, .int 181 0, .ref 217, .none, .ref 218, .ref 219, .ref 220, .int 573 0, .int 175 0, .str (z "/claim/cut.py") 574], #[]⟩
noncomputable def o222 (P : Params) : Obj := ⟨.type "function", none, .func (fd (st 56) (z "show_kind") 3 (.str (z "framerune.kinds") 236) (.ref 221)), #[]⟩
noncomputable def o223 (P : Params) : Obj := ⟨.type "tuple", none, .seq #[] 0, #[]⟩
noncomputable def o224 (P : Params) : Obj := ⟨.none, none, .fields #[], #[]⟩
noncomputable def o225 (P : Params) : Obj := ⟨.type "tuple", none, .seq #[.str (z "kt") 579, .str (z "k") 580, .str (z "names") 581, .str (z "level") 582, .str (z "texts") 583, .str (z "key") 584] 0, #[]⟩
noncomputable def o226 (P : Params) : Obj := ⟨.type "tuple", none, .seq #[] 0, #[]⟩
noncomputable def o227 (P : Params) : Obj := ⟨.none, none, .func (fd (st 57) (z "show_level") 0 .none .none), #[]⟩
noncomputable def o228 (P : Params) : Obj := ⟨.type "code", none, .fields #[.str (z "show_level") 576, .str (z "show_level") 577, .str (z "/claim/cut.py") 578, .int 177 0, .int 5 0, .int 0 0, .int 0 0, .int 3 0, .ref 223, .bool true, .int 181 0, .ref 224, .none, .ref 225, .ref 226, .ref 227, .int 585 0, .int 177 0, .str (z "/claim/cut.py") 586], #[]⟩
noncomputable def o229 (P : Params) : Obj := ⟨.type "function", none, .func (fd (st 57) (z "show_level") 3 (.str (z "framerune.kinds") 236) (.ref 228)), #[]⟩
noncomputable def o230 (P : Params) : Obj := ⟨.type "tuple", none, .seq #[] 0, #[]⟩
noncomputable def o231 (P : Params) : Obj := ⟨.none, none, .fields #[], #[]⟩
noncomputable def o232 (P : Params) : Obj := ⟨.type "tuple", none, .seq #[.str (z "kt") 591, .str (z "k") 592, .str (z "names") 593, .str (z "level") 594, .str (z "texts") 595, .str (z "before") 596, .str (z "behind") 597, .str (z "row") 598, .str (z "words") 599] 0, #[]⟩
noncomputable def o233 (P : Params) : Obj := ⟨.type "tuple", none, .seq #[] 0, #[]⟩
noncomputable def o234 (P : Params) : Obj := ⟨.none, none, .func (fd (st 58) (z "show_parts") 0 .none .none), #[]⟩
noncomputable def o235 (P : Params) : Obj := ⟨.type "code", none, .fields #[.str (z "show_parts") 588, .str (z "show_parts") 589, .str (z "/claim/cut.py") 590, .int 182 0, .int 5 0, .int 0 0, .int 0 0, .int 3 0, .ref 230, .bool true, .int 181 0, .ref 231, .none, .ref 232, .ref 233, .ref 234, .int 600 0, .int 182 0, .str (z "/claim/cut.py") 601], #[]⟩
noncomputable def o236 (P : Params) : Obj := ⟨.type "function", none, .func (fd (st 58) (z "show_parts") 3 (.str (z "framerune.kinds") 236) (.ref 235)), #[]⟩
noncomputable def o237 (P : Params) : Obj := ⟨.type "tuple", none, .seq #[] 0, #[]⟩
noncomputable def o238 (P : Params) : Obj := ⟨.none, none, .fields #[], #[]⟩
noncomputable def o239 (P : Params) : Obj := ⟨.type "tuple", none, .seq #[.str (z "kt") 606, .str (z "k") 607, .str (z "row") 608, .str (z "names") 609, .str (z "level") 610, .str (z "texts") 611, .str (z "sort") 612, .str (z "owner") 613] 0, #[]⟩
noncomputable def o240 (P : Params) : Obj := ⟨.type "tuple", none, .seq #[] 0, #[]⟩
noncomputable def o241 (P : Params) : Obj := ⟨.none, none, .func (fd (st 59) (z "show_core") 0 .none .none), #[]⟩
noncomputable def o242 (P : Params) : Obj := ⟨.type "code", none, .fields #[.str (z "show_core") 603, .str (z "show_core") 604, .str (z "/claim/cut.py") 605, .int 193 0, .int 6 0, .int 0 0, .int 0 0, .int 3 0, .ref 237, .bool true, .int 181 0, .ref 238, .none, .ref 239, .ref 240, .ref 241, .int 614 0, .int 193 0, .str (z "/claim/cut.py") 615], #[]⟩
noncomputable def o243 (P : Params) : Obj := ⟨.type "function", none, .func (fd (st 59) (z "show_core") 3 (.str (z "framerune.kinds") 236) (.ref 242)), #[]⟩
noncomputable def o244 (P : Params) : Obj := ⟨.type "tuple", none, .seq #[] 0, #[]⟩
noncomputable def o245 (P : Params) : Obj := ⟨.none, none, .fields #[], #[]⟩
noncomputable def o246 (P : Params) : Obj := ⟨.type "tuple", none, .seq #[.str (z "tid") 620, .str (z "names") 621] 0, #[]⟩
noncomputable def o247 (P : Params) : Obj := ⟨.type "tuple", none, .seq #[] 0, #[]⟩
noncomputable def o248 (P : Params) : Obj := ⟨.none, none, .func (fd (st 60) (z "show_name") 0 .none .none), #[]⟩
noncomputable def o249 (P : Params) : Obj := ⟨.type "code", none, .fields #[.str (z "show_name") 617, .str (z "show_name") 618, .str (z "/claim/cut.py") 619, .int 205 0, .int 2 0, .int 0 0, .int 0 0, .int 3 0, .ref 244, .bool true, .int 181 0, .ref 245, .none, .ref 246, .ref 247, .ref 248, .int 622 0, .int 205 0, .str (z "/claim/cut.py") 623], #[]⟩
noncomputable def o250 (P : Params) : Obj := ⟨.type "function", none, .func (fd (st 60) (z "show_name") 3 (.str (z "framerune.kinds") 236) (.ref 249)), #[]⟩
noncomputable def o251 (P : Params) : Obj := ⟨.type "tuple", none, .seq #[] 0, #[]⟩
noncomputable def o252 (P : Params) : Obj := ⟨.none, none, .fields #[], #[]⟩
noncomputable def o253 (P : Params) : Obj := ⟨.type "tuple", none, .seq #[.str (z "kt") 628, .str (z "args") 629, .str (z "names") 630, .str (z "level") 631, .str (z "texts") 632, .str (z "out") 633, .str (z "arg") 634] 0, #[]⟩
noncomputable def o254 (P : Params) : Obj := ⟨.type "tuple", none, .seq #[] 0, #[]⟩
noncomputable def o255 (P : Params) : Obj := ⟨.none, none, .func (fd (st 61) (z "show_args") 0 .none .none), #[]⟩
noncomputable def o256 (P : Params) : Obj := ⟨.type "code", none, .fields #[.str (z "show_args") 625, .str (z "show_args") 626, .str (z "/claim/cut.py") 627, .int 209 0, .int 5 0, .int 0 0, .int 0 0, .int 3 0, .ref 251, .bool true, .int 181 0, .ref 252, .none, .ref 253, .ref 254, .ref 255, .int 635 0, .int 209 0, .str (z "/claim/cut.py") 636], #[]⟩
noncomputable def o257 (P : Params) : Obj := ⟨.type "function", none, .func (fd (st 61) (z "show_args") 3 (.str (z "framerune.kinds") 236) (.ref 256)), #[]⟩
noncomputable def o258 (P : Params) : Obj := ⟨.type "tuple", none, .seq #[.str (z "void") 640, .str (z "bool") 641, .str (z "char") 642, .str (z "sbyte") 643, .str (z "byte") 644, .str (z "short") 645, .str (z "ushort") 646, .str (z "int") 647, .str (z "uint") 648, .str (z "long") 649, .str (z "ulong") 650, .str (z "native int") 651, .str (z "object") 652, .str (z "string") 653, .str (z "null") 654, .str (z "?") 655] 0, #[]⟩
noncomputable def o259 (P : Params) : Obj := ⟨.type "tuple", none, .seq #[.str (z "") 657, .str (z "[]") 658] 0, #[]⟩
noncomputable def o260 (P : Params) : Obj := ⟨.type "tuple", none, .seq #[.str (z "") 659, .str (z "&") 660] 0, #[]⟩
noncomputable def o261 (P : Params) : Obj := ⟨.type "tuple", none, .seq #[.str (z "boxed ") 661, .str (z "") 662] 0, #[]⟩
noncomputable def o262 (P : Params) : Obj := ⟨.type "tuple", none, .seq #[.str (z "readonly ") 663, .str (z "&") 664] 0, #[]⟩
noncomputable def o263 (P : Params) : Obj := ⟨.type "tuple", none, .seq #[.str (z "raw ") 665, .str (z "") 666] 0, #[]⟩
noncomputable def o264 (P : Params) : Obj := ⟨.type "tuple", none, .seq #[.ref 259, .ref 260, .ref 261, .ref 262, .ref 263] 0, #[]⟩
noncomputable def o265 (P : Params) : Obj := ⟨.type "tuple", none, .seq #[] 0, #[]⟩
noncomputable def o266 (P : Params) : Obj := ⟨.none, none, .fields #[], #[]⟩
noncomputable def o267 (P : Params) : Obj := ⟨.type "tuple", none, .seq #[.str (z "kt") 671, .str (z "laid") 672, .str (z "rows") 673, .str (z "n") 674, .str (z "form") 675, .str (z "number") 676] 0, #[]⟩
noncomputable def o268 (P : Params) : Obj := ⟨.type "tuple", none, .seq #[] 0, #[]⟩
noncomputable def o269 (P : Params) : Obj := ⟨.none, none, .func (fd (st 65) (z "_law_leaf") 0 .none .none), #[]⟩
noncomputable def o270 (P : Params) : Obj := ⟨.type "code", none, .fields #[.str (z "_law_leaf") 668, .str (z "_law_leaf") 669, .str (z "/claim/cut.py") 670, .int 221 0, .int 4 0, .int 0 0, .int 0 0, .int 3 0, .ref 265, .bool true, .int 181 0, .ref 266, .none, .ref 267, .ref 268, .ref 269, .int 677 0, .int 221 0, .str (z "/claim/cut.py") 678], #[]⟩
noncomputable def o271 (P : Params) : Obj := ⟨.type "function", none, .func (fd (st 65) (z "_law_leaf") 3 (.str (z "law_xw0069_01") 638) (.ref 270)), #[]⟩
noncomputable def o272 (P : Params) : Obj := ⟨.type "tuple", none, .seq #[] 0, #[]⟩
noncomputable def o273 (P : Params) : Obj := ⟨.none, none, .fields #[], #[]⟩
noncomputable def o274 (P : Params) : Obj := ⟨.none, none, .func (fd (st 66) (z "_law_lay") 0 .none .none), #[]⟩
noncomputable def o275 (P : Params) : Obj := ⟨.type "code", none, .fields #[.str (z "_law_lay") 680, .str (z "_law_lay") 681, .str (z "/claim/cut.py") 682, .int 235 0, .int 6 0, .int 0 0, .int 0 0, .int 3 0, .ref 272, .bool true, .int 181 0, .ref 273, .none, .none, .none, .ref 274, .int 683 0, .int 235 0, .str (z "/claim/cut.py") 684], #[]⟩
noncomputable def o276 (P : Params) : Obj := ⟨.type "function", none, .func (fd (st 66) (z "_law_lay") 3 (.str (z "law_xw0069_01") 638) (.ref 275)), #[]⟩
noncomputable def o277 (P : Params) : Obj := ⟨.type "tuple", none, .seq #[] 0, #[]⟩
noncomputable def o278 (P : Params) : Obj := ⟨.none, none, .fields #[], #[]⟩
noncomputable def o279 (P : Params) : Obj := ⟨.type "tuple", none, .seq #[.str (z "kt") 689, .str (z "laid") 690, .str (z "rows") 691, .str (z "spine") 692, .str (z "n") 693, .str (z "x") 694, .str (z "y") 695, .str (z "sort") 696, .str (z "more") 697, .str (z "top") 698, .str (z "z") 699] 0, #[]⟩
noncomputable def o280 (P : Params) : Obj := ⟨.type "tuple", none, .seq #[] 0, #[]⟩
noncomputable def o281 (P : Params) : Obj := ⟨.none, none, .func (fd (st 67) (z "_law_step") 0 .none .none), #[]⟩
noncomputable def o282 (P : Params) : Obj := ⟨.type "code", none, .fields #[.str (z "_law_step") 686, .str (z "_law_step") 687, .str (z "/claim/cut.py") 688, .int 247 0, .int 5 0, .int 0 0, .int 0 0, .int 3 0, .ref 277, .bool true, .int 181 0, .ref 278, .none, .ref 279, .ref 280, .ref 281, .int 700 0, .int 247 0, .str (z "/claim/cut.py") 701], #[]⟩
noncomputable def o283 (P : Params) : Obj := ⟨.type "function", none, .func (fd (st 67) (z "_law_step") 3 (.str (z "law_xw0069_01") 638) (.ref 282)), #[]⟩
noncomputable def o284 (P : Params) : Obj := ⟨.type "tuple", none, .seq #[] 0, #[]⟩
noncomputable def o285 (P : Params) : Obj := ⟨.none, none, .fields #[], #[]⟩
noncomputable def o286 (P : Params) : Obj := ⟨.type "tuple", none, .seq #[.str (z "words") 706, .str (z "below") 707] 0, #[]⟩
noncomputable def o287 (P : Params) : Obj := ⟨.type "tuple", none, .seq #[] 0, #[]⟩
noncomputable def o288 (P : Params) : Obj := ⟨.none, none, .func (fd (st 68) (z "_law_list") 0 .none .none), #[]⟩
noncomputable def o289 (P : Params) : Obj := ⟨.type "code", none, .fields #[.str (z "_law_list") 703, .str (z "_law_list") 704, .str (z "/claim/cut.py") 705, .int 262 0, .int 2 0, .int 0 0, .int 0 0, .int 3 0, .ref 284, .bool true, .int 181 0, .ref 285, .none, .ref 286, .ref 287, .ref 288, .int 708 0, .int 262 0, .str (z "/claim/cut.py") 709], #[]⟩
noncomputable def o290 (P : Params) : Obj := ⟨.type "function", none, .func (fd (st 68) (z "_law_list") 3 (.str (z "law_xw0069_01") 638) (.ref 289)), #[]⟩
noncomputable def o291 (P : Params) : Obj := ⟨.type "tuple", none, .seq #[] 0, #[]⟩
noncomputable def o292 (P : Params) : Obj := ⟨.none, none, .fields #[], #[]⟩
noncomputable def o293 (P : Params) : Obj := ⟨.none, none, .func (fd (st 69) (z "_law_words") 0 .none .none), #[]⟩
noncomputable def o294 (P : Params) : Obj := ⟨.type "code", none, .fields #[.str (z "_law_words") 711, .str (z "_law_words") 712, .str (z "/claim/cut.py") 713, .int 268 0, .int 3 0, .int 0 0, .int 0 0, .int 3 0, .ref 291, .bool true, .int 181 0, .ref 292, .none, .none, .none, .ref 293, .int 714 0, .int 268 0, .str (z "/claim/cut.py") 715], #[]⟩
noncomputable def o295 (P : Params) : Obj := ⟨.type "function", none, .func (fd (st 69) (z "_law_words") 3 (.str (z "law_xw0069_01") 638) (.ref 294)), #[]⟩
noncomputable def o296 (P : Params) : Obj := ⟨.type "tuple", none, .seq #[] 0, #[]⟩
noncomputable def o297 (P : Params) : Obj := ⟨.none, none, .fields #[], #[]⟩
noncomputable def o298 (P : Params) : Obj := ⟨.type "tuple", none, .seq #[.str (z "numbers") 720, .str (z "turn") 721, .str (z "names") 722, .str (z "n") 723] 0, #[]⟩
noncomputable def o299 (P : Params) : Obj := ⟨.type "tuple", none, .seq #[] 0, #[]⟩
noncomputable def o300 (P : Params) : Obj := ⟨.none, none, .func (fd (st 70) (z "_law_names") 0 .none .none), #[]⟩
noncomputable def o301 (P : Params) : Obj := ⟨.type "code", none, .fields #[.str (z "_law_names") 717, .str (z "_law_names") 718, .str (z "/claim/cut.py") 719, .int 284 0, .int 2 0, .int 0 0, .int 0 0, .int 3 0, .ref 296, .bool true, .int 181 0, .ref 297, .none, .ref 298, .ref 299, .ref 300, .int 724 0, .int 284 0, .str (z "/claim/cut.py") 725], #[]⟩
noncomputable def o302 (P : Params) : Obj := ⟨.type "function", none, .func (fd (st 70) (z "_law_names") 3 (.str (z "law_xw0069_01") 638) (.ref 301)), #[]⟩
noncomputable def o303 (P : Params) : Obj := ⟨.type "tuple", none, .seq #[] 0, #[]⟩
noncomputable def o304 (P : Params) : Obj := ⟨.none, none, .fields #[], #[]⟩
noncomputable def o305 (P : Params) : Obj := ⟨.type "tuple", none, .seq #[.str (z "names") 730, .str (z "a") 731, .str (z "b") 732, .str (z "kt") 733, .str (z "first") 734, .str (z "place") 735, .str (z "word") 736, .str (z "bases") 737, .str (z "out") 738, .str (z "j") 739, .str (z "k") 740, .str (z "text") 741, .str (z "layer") 742] 0, #[]⟩
noncomputable def o306 (P : Params) : Obj := ⟨.type "tuple", none, .seq #[] 0, #[]⟩
noncomputable def o307 (P : Params) : Obj := ⟨.none, none, .func (fd (st 71) (z "_law_lawful") 0 .none .none), #[]⟩
noncomputable def o308 (P : Params) : Obj := ⟨.type "code", none, .fields #[.str (z "_law_lawful") 727, .str (z "_law_lawful") 728, .str (z "/claim/cut.py") 729, .int 290 0, .int 3 0, .int 0 0, .int 0 0, .int 3 0, .ref 303, .bool true, .int 181 0, .ref 304, .none, .ref 305, .ref 306, .ref 307, .int 743 0, .int 290 0, .str (z "/claim/cut.py") 744], #[]⟩
noncomputable def o309 (P : Params) : Obj := ⟨.type "function", none, .func (fd (st 71) (z "_law_lawful") 3 (.str (z "law_xw0069_01") 638) (.ref 308)), #[]⟩
noncomputable def o310 (P : Params) : Obj := ⟨.type "tuple", none, .seq #[] 0, #[]⟩
noncomputable def o311 (P : Params) : Obj := ⟨.none, none, .fields #[], #[]⟩
noncomputable def o312 (P : Params) : Obj := ⟨.none, none, .func (fd (st 72) (z "law") 0 .none .none), #[]⟩
noncomputable def o313 (P : Params) : Obj := ⟨.type "code", none, .fields #[.str (z "law") 746, .str (z "law") 747, .str (z "/claim/cut.py") 748, .int 313 0, .int 1 0, .int 0 0, .int 0 0, .int 3 0, .ref 310, .bool true, .int 181 0, .ref 311, .none, .none, .none, .ref 312, .int 749 0, .int 313 0, .str (z "/claim/cut.py") 750], #[]⟩
noncomputable def o314 (P : Params) : Obj := ⟨.type "function", none, .func (fd (st 72) (z "law") 3 (.str (z "law_xw0069_01") 638) (.ref 313)), #[]⟩
noncomputable def tr (P : Params) : BT := .node (boot_o_0 P) (.node (boot_o_1 P) (.node (o3 P) (.node (boot_o_7 P) (.node (o15 P) (.node (o31 P) (.node (o63 P) (.node (o127 P) (.node (o255 P) .nil .nil) .nil) (.node (o191 P) .nil .nil)) (.node (o95 P) (.node (o159 P) (.node (o287 P) .nil .nil) .nil) (.node (o223 P) .nil .nil))) (.node (o47 P) (.node (o79 P) (.node (o143 P) (.node (o271 P) .nil .nil) .nil) (.node (o207 P) .nil .nil)) (.node (o111 P) (.node (o175 P) (.node (o303 P) .nil .nil) .nil) (.node (o239 P) .nil .nil)))) (.node (o23 P) (.node (o39 P) (.node (o71 P) (.node (o135 P) (.node (o263 P) .nil .nil) .nil) (.node (o199 P) .nil .nil)) (.node (o103 P) (.node (o167 P) (.node (o295 P) .nil .nil) .nil) (.node (o231 P) .nil .nil))) (.node (o55 P) (.node (o87 P) (.node (o151 P) (.node (o279 P) .nil .nil) .nil) (.node (o215 P) .nil .nil)) (.node (o119 P) (.node (o183 P) (.node (o311 P) .nil .nil) .nil) (.node (o247 P) .nil .nil))))) (.node (o11 P) (.node (o19 P) (.node (o35 P) (.node (o67 P) (.node (o131 P) (.node (o259 P) .nil .nil) .nil) (.node (o195 P) .nil .nil)) (.node (o99 P) (.node (o163 P) (.node (o291 P) .nil .nil) .nil) (.node (o227 P) .nil .nil))) (.node (o51 P) (.node (o83 P) (.node (o147 P) (.node (o275 P) .nil .nil) .nil) (.node (o211 P) .nil .nil)) (.node (o115 P) (.node (o179 P) (.node (o307 P) .nil .nil) .nil) (.node (o243 P) .nil .nil)))) (.node (o27 P) (.node (o43 P) (.node (o75 P) (.node (o139 P) (.node (o267 P) .nil .nil) .nil) (.node (o203 P) .nil .nil)) (.node (o107 P) (.node (o171 P) (.node (o299 P) .nil .nil) .nil) (.node (o235 P) .nil .nil))) (.node (o59 P) (.node (o91 P) (.node (o155 P) (.node (o283 P) .nil .nil) .nil) (.node (o219 P) .nil .nil)) (.node (o123 P) (.node (o187 P) .nil .nil) (.node (o251 P) .nil .nil)))))) (.node (boot_o_5 P) (.node (boot_o_9 P) (.node (o17 P) (.node (o33 P) (.node (o65 P) (.node (o129 P) (.node (o257 P) .nil .nil) .nil) (.node (o193 P) .nil .nil)) (.node (o97 P) (.node (o161 P) (.node (o289 P) .nil .nil) .nil) (.node (o225 P) .nil .nil))) (.node (o49 P) (.node (o81 P) (.node (o145 P) (.node (o273 P) .nil .nil) .nil) (.node (o209 P) .nil .nil)) (.node (o113 P) (.node (o177 P) (.node (o305 P) .nil .nil) .nil) (.node (o241 P) .nil .nil)))) (.node (o25 P) (.node (o41 P) (.node (o73 P) (.node (o137 P) (.node (o265 P) .nil .nil) .nil) (.node (o201 P) .nil .nil)) (.node (o105 P) (.node (o169 P) (.node (o297 P) .nil .nil) .nil) (.node (o233 P) .nil .nil))) (.node (o57 P) (.node (o89 P) (.node (o153 P) (.node (o281 P) .nil .nil) .nil) (.node (o217 P) .nil .nil)) (.node (o121 P) (.node (o185 P) (.node (o313 P) .nil .nil) .nil) (.node (o249 P) .nil .nil))))) (.node (o13 P) (.node (o21 P) (.node (o37 P) (.node (o69 P) (.node (o133 P) (.node (o261 P) .nil .nil) .nil) (.node (o197 P) .nil .nil)) (.node (o101 P) (.node (o165 P) (.node (o293 P) .nil .nil) .nil) (.node (o229 P) .nil .nil))) (.node (o53 P) (.node (o85 P) (.node (o149 P) (.node (o277 P) .nil .nil) .nil) (.node (o213 P) .nil .nil)) (.node (o117 P) (.node (o181 P) (.node (o309 P) .nil .nil) .nil) (.node (o245 P) .nil .nil)))) (.node (o29 P) (.node (o45 P) (.node (o77 P) (.node (o141 P) (.node (o269 P) .nil .nil) .nil) (.node (o205 P) .nil .nil)) (.node (o109 P) (.node (o173 P) (.node (o301 P) .nil .nil) .nil) (.node (o237 P) .nil .nil))) (.node (o61 P) (.node (o93 P) (.node (o157 P) (.node (o285 P) .nil .nil) .nil) (.node (o221 P) .nil .nil)) (.node (o125 P) (.node (o189 P) .nil .nil) (.node (o253 P) .nil .nil))))))) (.node (o2 P) (.node (boot_o_4 P) (.node (boot_o_8 P) (.node (o16 P) (.node (o32 P) (.node (o64 P) (.node (o128 P) (.node (o256 P) .nil .nil) .nil) (.node (o192 P) .nil .nil)) (.node (o96 P) (.node (o160 P) (.node (o288 P) .nil .nil) .nil) (.node (o224 P) .nil .nil))) (.node (o48 P) (.node (o80 P) (.node (o144 P) (.node (o272 P) .nil .nil) .nil) (.node (o208 P) .nil .nil)) (.node (o112 P) (.node (o176 P) (.node (o304 P) .nil .nil) .nil) (.node (o240 P) .nil .nil)))) (.node (o24 P) (.node (o40 P) (.node (o72 P) (.node (o136 P) (.node (o264 P) .nil .nil) .nil) (.node (o200 P) .nil .nil)) (.node (o104 P) (.node (o168 P) (.node (o296 P) .nil .nil) .nil) (.node (o232 P) .nil .nil))) (.node (o56 P) (.node (o88 P) (.node (o152 P) (.node (o280 P) .nil .nil) .nil) (.node (o216 P) .nil .nil)) (.node (o120 P) (.node (o184 P) (.node (o312 P) .nil .nil) .nil) (.node (o248 P) .nil .nil))))) (.node (o12 P) (.node (o20 P) (.node (o36 P) (.node (o68 P) (.node (o132 P) (.node (o260 P) .nil .nil) .nil) (.node (o196 P) .nil .nil)) (.node (o100 P) (.node (o164 P) (.node (o292 P) .nil .nil) .nil) (.node (o228 P) .nil .nil))) (.node (o52 P) (.node (o84 P) (.node (o148 P) (.node (o276 P) .nil .nil) .nil) (.node (o212 P) .nil .nil)) (.node (o116 P) (.node (o180 P) (.node (o308 P) .nil .nil) .nil) (.node (o244 P) .nil .nil)))) (.node (o28 P) (.node (o44 P) (.node (o76 P) (.node (o140 P) (.node (o268 P) .nil .nil) .nil) (.node (o204 P) .nil .nil)) (.node (o108 P) (.node (o172 P) (.node (o300 P) .nil .nil) .nil) (.node (o236 P) .nil .nil))) (.node (o60 P) (.node (o92 P) (.node (o156 P) (.node (o284 P) .nil .nil) .nil) (.node (o220 P) .nil .nil)) (.node (o124 P) (.node (o188 P) .nil .nil) (.node (o252 P) .nil .nil)))))) (.node (boot_o_6 P) (.node (boot_o_10 P) (.node (o18 P) (.node (o34 P) (.node (o66 P) (.node (o130 P) (.node (o258 P) .nil .nil) .nil) (.node (o194 P) .nil .nil)) (.node (o98 P) (.node (o162 P) (.node (o290 P) .nil .nil) .nil) (.node (o226 P) .nil .nil))) (.node (o50 P) (.node (o82 P) (.node (o146 P) (.node (o274 P) .nil .nil) .nil) (.node (o210 P) .nil .nil)) (.node (o114 P) (.node (o178 P) (.node (o306 P) .nil .nil) .nil) (.node (o242 P) .nil .nil)))) (.node (o26 P) (.node (o42 P) (.node (o74 P) (.node (o138 P) (.node (o266 P) .nil .nil) .nil) (.node (o202 P) .nil .nil)) (.node (o106 P) (.node (o170 P) (.node (o298 P) .nil .nil) .nil) (.node (o234 P) .nil .nil))) (.node (o58 P) (.node (o90 P) (.node (o154 P) (.node (o282 P) .nil .nil) .nil) (.node (o218 P) .nil .nil)) (.node (o122 P) (.node (o186 P) (.node (o314 P) .nil .nil) .nil) (.node (o250 P) .nil .nil))))) (.node (o14 P) (.node (o22 P) (.node (o38 P) (.node (o70 P) (.node (o134 P) (.node (o262 P) .nil .nil) .nil) (.node (o198 P) .nil .nil)) (.node (o102 P) (.node (o166 P) (.node (o294 P) .nil .nil) .nil) (.node (o230 P) .nil .nil))) (.node (o54 P) (.node (o86 P) (.node (o150 P) (.node (o278 P) .nil .nil) .nil) (.node (o214 P) .nil .nil)) (.node (o118 P) (.node (o182 P) (.node (o310 P) .nil .nil) .nil) (.node (o246 P) .nil .nil)))) (.node (o30 P) (.node (o46 P) (.node (o78 P) (.node (o142 P) (.node (o270 P) .nil .nil) .nil) (.node (o206 P) .nil .nil)) (.node (o110 P) (.node (o174 P) (.node (o302 P) .nil .nil) .nil) (.node (o238 P) .nil .nil))) (.node (o62 P) (.node (o94 P) (.node (o158 P) (.node (o286 P) .nil .nil) .nil) (.node (o222 P) .nil .nil)) (.node (o126 P) (.node (o190 P) .nil .nil) (.node (o254 P) .nil .nil)))))))
noncomputable def hp (P : Params) : Heap := ⟨⟨[boot_o_0 P, boot_o_1 P, o2 P, o3 P, boot_o_4 P, boot_o_5 P, boot_o_6 P, boot_o_7 P, boot_o_8 P, boot_o_9 P, boot_o_10 P, o11 P, o12 P, o13 P, o14 P, o15 P, o16 P, o17 P, o18 P, o19 P, o20 P, o21 P, o22 P, o23 P, o24 P, o25 P, o26 P, o27 P, o28 P, o29 P, o30 P, o31 P, o32 P, o33 P, o34 P, o35 P, o36 P, o37 P, o38 P, o39 P, o40 P, o41 P, o42 P, o43 P, o44 P, o45 P, o46 P, o47 P, o48 P, o49 P, o50 P, o51 P, o52 P, o53 P, o54 P, o55 P, o56 P, o57 P, o58 P, o59 P, o60 P, o61 P, o62 P, o63 P, o64 P, o65 P, o66 P, o67 P, o68 P, o69 P, o70 P, o71 P, o72 P, o73 P, o74 P, o75 P, o76 P, o77 P, o78 P, o79 P, o80 P, o81 P, o82 P, o83 P, o84 P, o85 P, o86 P, o87 P, o88 P, o89 P, o90 P, o91 P, o92 P, o93 P, o94 P, o95 P, o96 P, o97 P, o98 P, o99 P, o100 P, o101 P, o102 P, o103 P, o104 P, o105 P, o106 P, o107 P, o108 P, o109 P, o110 P, o111 P, o112 P, o113 P, o114 P, o115 P, o116 P, o117 P, o118 P, o119 P, o120 P, o121 P, o122 P, o123 P, o124 P, o125 P, o126 P, o127 P, o128 P, o129 P, o130 P, o131 P, o132 P, o133 P, o134 P, o135 P, o136 P, o137 P, o138 P, o139 P, o140 P, o141 P, o142 P, o143 P, o144 P, o145 P, o146 P, o147 P, o148 P, o149 P, o150 P, o151 P, o152 P, o153 P, o154 P, o155 P, o156 P, o157 P, o158 P, o159 P, o160 P, o161 P, o162 P, o163 P, o164 P, o165 P, o166 P, o167 P, o168 P, o169 P, o170 P, o171 P, o172 P, o173 P, o174 P, o175 P, o176 P, o177 P, o178 P, o179 P, o180 P, o181 P, o182 P, o183 P, o184 P, o185 P, o186 P, o187 P, o188 P, o189 P, o190 P, o191 P, o192 P, o193 P, o194 P, o195 P, o196 P, o197 P, o198 P, o199 P, o200 P, o201 P, o202 P, o203 P, o204 P, o205 P, o206 P, o207 P, o208 P, o209 P, o210 P, o211 P, o212 P, o213 P, o214 P, o215 P, o216 P, o217 P, o218 P, o219 P, o220 P, o221 P, o222 P, o223 P, o224 P, o225 P, o226 P, o227 P, o228 P, o229 P, o230 P, o231 P, o232 P, o233 P, o234 P, o235 P, o236 P, o237 P, o238 P, o239 P, o240 P, o241 P, o242 P, o243 P, o244 P, o245 P, o246 P, o247 P, o248 P, o249 P, o250 P, o251 P, o252 P, o253 P, o254 P, o255 P, o256 P, o257 P, o258 P, o259 P, o260 P, o261 P, o262 P, o263 P, o264 P, o265 P, o266 P, o267 P, o268 P, o269 P, o270 P, o271 P, o272 P, o273 P, o274 P, o275 P, o276 P, o277 P, o278 P, o279 P, o280 P, o281 P, o282 P, o283 P, o284 P, o285 P, o286 P, o287 P, o288 P, o289 P, o290 P, o291 P, o292 P, o293 P, o294 P, o295 P, o296 P, o297 P, o298 P, o299 P, o300 P, o301 P, o302 P, o303 P, o304 P, o305 P, o306 P, o307 P, o308 P, o309 P, o310 P, o311 P, o312 P, o313 P, o314 P]⟩, lf⟩
noncomputable def tr0 (P : Params) : BT := .node (boot_o_0 P) (.node (boot_o_1 P) (.node (boot_o_3 P) (.node (boot_o_7 P) .nil .nil) (.node (o11 P) .nil .nil)) (.node (boot_o_5 P) (.node (boot_o_9 P) .nil .nil) (.node (o13 P) .nil .nil))) (.node (boot_o_2 P) (.node (boot_o_4 P) (.node (boot_o_8 P) .nil .nil) (.node (q12 P) .nil .nil)) (.node (boot_o_6 P) (.node (boot_o_10 P) .nil .nil) (.node (o14 P) .nil .nil)))
noncomputable def hp0 (P : Params) : Heap := ⟨⟨[boot_o_0 P, boot_o_1 P, boot_o_2 P, boot_o_3 P, boot_o_4 P, boot_o_5 P, boot_o_6 P, boot_o_7 P, boot_o_8 P, boot_o_9 P, boot_o_10 P, o11 P, q12 P, o13 P, o14 P]⟩, lf⟩
noncomputable abbrev e0 : Env := { scope := P0.main.scope, locals := mainNs, globals := mainNs, cells := [], code := .ref 13, frame := some 14 }
noncomputable abbrev bo : List Stmt := behindTheImports P0
noncomputable abbrev cE : Code := .body bo e0
noncomputable abbrev d0 : Drawn := ⟨0, 0, 0, 0⟩
noncomputable abbrev o0 : Pos := ⟨0, 0, 0, 0⟩
noncomputable abbrev p1 : Pos := ⟨313, 0, 336, 59⟩
theorem hpre (w : World) : (fun os => topGo treeTable P0 w 11 (some (.ref 6)) 12 ⟨boot_heap w.params, ⟨[]⟩, boot_drawn, boot_toks, os⟩ (topStub P0)) = fun os => some (⟨hp0 w.params, ⟨[]⟩, d0, 187, os⟩, ⟨denote treeTable cE, cE, o0, [topFrame o0]⟩) := by
  kernel_rfl
theorem hblk (w : World) : (fun os => segRun treeTable P0 w 11 (some (.ref 6)) 1 1 ⟨hp0 w.params, ⟨[]⟩, d0, 187, os⟩ (blockOf bo e0 cE o0 [topFrame o0])) = fun os => some (.next, SharedT.abs ⟨tr0 w.params, 15, lf, ⟨[]⟩, d0, 187, os⟩, cE, o0) := by
  kernel_rfl
def RunAt (w : World) : Prop := (fun os => segRunT treeTable P0 w 11 (some (.ref 6)) 1 2600 ⟨tr0 w.params, 15, lf, ⟨[]⟩, d0, 187, os⟩ (piecesOf bo e0 cE o0 [topFrame o0])) = fun os => some (.next, ⟨tr w.params, 315, lf, ⟨[]⟩, d0, 752, os⟩, cE, p1)
theorem hrunF (w : World) : RunAt (w.withFollow "special-get-raises" false) := by
  unfold RunAt
  rw [PySem.W.Fast.te10110043849684766642, PySem.W.Fast.te14364793385576792824]
  kernel_rfl
theorem hrunT (w : World) : RunAt (w.withFollow "special-get-raises" true) := by
  unfold RunAt
  rw [PySem.W.Fast.te10110043849684766642, PySem.W.Fast.te14364793385576792824]
  kernel_rfl
theorem hrun (w : World) : RunAt w := byRow2 "special-get-raises" (P := RunAt) hrunF hrunT w
theorem hfin (w : World) : (fun os => topRun treeTable P0 w 11 (some (.ref 6)) 2 (SharedT.abs ⟨tr w.params, 315, lf, ⟨[]⟩, d0, 752, os⟩) ⟨doneF .next, cE, p1, [topFrame o0]⟩) = fun os => some ⟨hp w.params, ⟨[]⟩, d0, 752, os⟩ := by
  kernel_rfl
theorem run9 (w : World) (os : OsState) : topRun treeTable P0 w 11 (some (.ref 6)) (12 + (1 + (2600 + 2))) ⟨boot_heap w.params, ⟨[]⟩, boot_drawn, boot_toks, os⟩ (topStub P0) = some ⟨hp w.params, ⟨[]⟩, d0, 752, os⟩ := by
  refine go_top (congrFun (hpre w) os) (piece_block (congrFun (hblk w) os) ?_)
  have h := piece_app (rest := []) (q := o0) (segRun_of (congrFun (hrun w) os)) (congrFun (hfin w) os)
  rwa [List.append_nil] at h
theorem size9 (w : World) : ((boot_heap w.params).isNs mainGlobals && (⟨[]⟩ : Array GenState).size == 0, (boot_heap w.params).objs.size, (boot_heap w.params).nsMap mainGlobals "__annotations__") = (true, 11, some (.ref 6)) := by
  kernel_rfl
theorem left9 {q : Program} {loose : List Str} {Xt : Shared → Bool} {α : Type} {Yf : Shared → α} {Ya : World → α}
    (l1 : ∀ (w : World) (os : OsState), (staticsOk (importedModules P0.main.body) (boot_heap w.params) (hp w.params) && namesBound P0 (hp w.params) && gensDone ⟨hp w.params, ⟨[]⟩, d0, 752, os⟩ && laidKept (boot_heap w.params) (hp w.params)) = true)
    (l2 : ∀ (w : World) (os : OsState), openSeen q loose (importedModules P0.main.body) Xt true ⟨hp w.params, ⟨[]⟩, d0, 752, os⟩ = openGood q loose)
    (l3 : ∀ (w : World) (os : OsState), Yf ⟨hp w.params, ⟨[]⟩, d0, 752, os⟩ = Ya w) : LeftO PySem.Challenge.rw_xw0069_01.row.prog q loose Xt Yf Ya 4974 :=
  LeftO.of_pieces (p := P0) (boot_open (by kernel_rfl) (by decide) (fun s => rfl)) size9 run9 (by decide) fun w => funext fun os => congr (congrArg Prod.mk (l1 w os)) (congr (congrArg Prod.mk (l2 w os)) (l3 w os))
theorem pair9 {α β : Type} {a a' : α} {b b' : β} (x : a = a') (y : b = b') : (a, b) = (a', b') := by rw [x, y]
set_option maxHeartbeats 0 in
theorem said9 : PySem.Challenge.rw_xw0069_01.wellSaid = true := by
  rw [PySem.W.Fast.te9446332074065402090]
  unfold PySem.W.Fast.tw9446332074065402090
  repeat (refine look_both ?_ ?_)
  all_goals decide +kernel
local macro_rules | `(tactic| o_law) => `(tactic| refine holds_law said9 fun said => ?_)
local macro_rules
  | `(tactic| refine $f:ident $args*) => do
    unless f.getId.eraseMacroScopes == `PySem.W.holds_open do Lean.Macro.throwUnsupported
    let hole (a : Lean.Syntax) : Bool := a.isOfKind ``Lean.Parser.Term.syntheticHole && a[1].getId.eraseMacroScopes == `hl
    unless args.any (fun a => hole a.raw) do Lean.Macro.throwUnsupported
    let t ← `((by exact Mine.left9 (fun w os => by as_aux_lemma => kernel_rfl) (fun w os => by (rw [PySem.W.Fast.te4187177175401517315]; unfold PySem.W.Fast.tw4187177175401517315; refine Mine.pair9 ?_ (Mine.pair9 ?_ (Mine.pair9 ?_ (Mine.pair9 ?_ ?_))); all_goals (as_aux_lemma => kernel_rfl))) (fun w os => by as_aux_lemma => kernel_rfl)))
    let args' : Lean.TSyntaxArray `term := args.map fun a => if hole a.raw then t else ⟨a.raw⟩
    `(tactic| refine $f $args'*)
set_option maxHeartbeats 8000000 in
open_top hd for PySem.Challenge.rw_xw0069_01
end Mine

end
theorem Mine.top_offH : True := by w_top off; trivial
theorem Mine.turnH {M : Model} {A : Around} {env : Env} {Q : Flow → Shared → Prop} {E : Value → Shared → Prop} {s : Shared} (h : Q .next s) : wpAny M A (execs [] env) Q E s := by walk1; exact h
section
-- A0_base
namespace Mine
theorem room0 {a b c N : Nat} (h : a + b < N) (e : Nat.ble c b = true) : a + c < N := Nat.lt_of_le_of_lt (Nat.add_le_add_left (Nat.le_of_ble_eq_true e) a) h
theorem room1 {a k b c N : Nat} (h : a + b < N) (e : Nat.ble (k + c) b = true) : a + k + c < N := by rw [Nat.add_assoc]; exact room0 h e
theorem roomZ {a b N : Nat} (h : a + b < N) : a < N := Nat.lt_of_le_of_lt (Nat.le_add_right a b) h
theorem ndec {p : Prop} [Decidable p] (h : ¬ p) : ¬ (decide p = true) := fun e => h (of_decide_eq_true e)
theorem tok0 {α : Type} {M : Model} {A : Around} {X : Sem α} {Q : α → Shared → Prop} {E : Value → Shared → Prop} {s s' : Shared} {h : Heap} (e : s' = { s with heap := h, toks := s'.toks }) (H : ∀ k : Nat, wpAny M A X Q E { s with heap := h, toks := k }) : wpAny M A X Q E s' := e ▸ H _
theorem hideG {G : Prop} (h : ∀ P : Prop, (G → P) → P) : G := h G id
theorem n63 {n m : Nat} (h : n < m) (e : Nat.ble m 9223372036854775808 = true) : (n : Int) < 2 ^ 63 := by
  have := Nat.le_of_ble_eq_true e
  omega
theorem n63' {n m : Nat} (h : n ≤ m) (e : Nat.blt m 9223372036854775808 = true) : (n : Int) < 2 ^ 63 := by
  have := Nat.le_of_ble_eq_true e
  omega
theorem le_lit {n m k : Nat} (h : n ≤ m) (e : Nat.ble m k = true) : n ≤ k := Nat.le_trans h (Nat.le_of_ble_eq_true e)
theorem le_lit' {n m k : Nat} (h : n < m) (e : Nat.ble m k = true) : n ≤ k := Nat.le_trans (Nat.le_of_lt h) (Nat.le_of_ble_eq_true e)

def Ctl (w : World) (f : Value) (args : List Value) (dpN unN : Nat) (pre : List (Addr × Obj) → Prop) (post : List (Addr × Obj) → Value → List (Addr × Obj) → Prop) : Prop :=
  ∀ (dp un : Nat) (gd : Option (List Code)) (cn : Str) (cs : Scope) (a : Addr) (ccd : Value) (cl : List (Str × Addr)) (outer : List Env) (A₀ : Around) (base h₀ : Heap) (L : Addr) (m : Str → Option Value) (news : List (Addr × Obj)) (s : Shared)
    (mean : ExcName → Option Value) (mg mb : Str → Option Value) (Q E : Value → Shared → Prop),
    Below A₀ base outer h₀ → Fr h₀ L s.heap m → (hd.heap_1 w.params).In h₀ → News h₀ L s.heap news →
    Top hd.view_1 (looseW hd.view_1 [Str.ofString "TID_PRIM", Str.ofString "AROUND_WORDS"]) mean mg mb h₀ → cs.kind = .function → pre news → dp + dpN < recursionLimit → un + unN < cLine →
    (∀ r h' tk' news', Fr h₀ L h' m → News h₀ L h' news' → post news r news' → Q r { s with heap := h', toks := tk' }) →
    wpAny (model PySem.Challenge.rw_xw0069_01.row.prog w) (ktrTop dp un gd cn cs L a ccd cl outer) (call f args) Q E s

theorem Ctl.use {hp0 : Heap} {tk0 : Nat} {w : World} {f : Value} {args : List Value} {dpN unN : Nat} {pre : List (Addr × Obj) → Prop} {post : List (Addr × Obj) → Value → List (Addr × Obj) → Prop} (C : Ctl w f args dpN unN pre post)
    {dp un : Nat} {gd : Option (List Code)} {cn : Str} {cs : Scope} {a : Addr} {ccd : Value} {cl : List (Str × Addr)} {outer : List Env} {A₀ : Around} {base h₀ : Heap} {L : Addr} {m : Str → Option Value} {news : List (Addr × Obj)} {s : Shared}
    {mean : ExcName → Option Value} {mg mb : Str → Option Value} {Q E : Value → Shared → Prop}
    (B : Below A₀ base outer h₀) (F : Fr h₀ L hp0 m) (X : (hd.heap_1 w.params).In h₀) (N : News h₀ L hp0 news)
    (T : Top hd.view_1 (looseW hd.view_1 [Str.ofString "TID_PRIM", Str.ofString "AROUND_WORDS"]) mean mg mb h₀) (hk : cs.kind = .function) (hp : pre news) (hd : dp + dpN < recursionLimit) (hu : un + unN < cLine)
    (ret : ∀ r h' tk' news', Fr h₀ L h' m → News h₀ L h' news' → post news r news' → Q r { s with heap := h', toks := tk' }) :
    wpAny (model PySem.Challenge.rw_xw0069_01.row.prog w) (ktrTop dp un gd cn cs L a ccd cl outer) (call f args) Q E { s with heap := hp0, toks := tk0 } :=
  C dp un gd cn cs a ccd cl outer A₀ base h₀ L m news { s with heap := hp0, toks := tk0 } mean mg mb Q E B F X N T hk hp hd hu ret

section
variable {prog : Program} {w : World} {A : Around} {E : Value → Shared → Prop} {s : Shared} {h₀ : Heap} {L l a : Addr} {news : List (Addr × Obj)}
theorem m_lenL {hp1 : Heap} {tk1 : Nat} {vs : List Value} {n : Nat} {Q : Value → Shared → Prop} (N : News h₀ L hp1 news) (hm : (l, W.listOf vs.toArray n) ∈ news) (hz : vs.length ≤ 16384)
    (h : Q (.int (vs.length : Int) (tk1 + 1)) { s with heap := hp1, toks := tk1 + 1 + 1 }) : wpAny (model prog w) A (call (.builtin "len") [.ref l]) Q E { s with heap := hp1, toks := tk1 } := by
  have hl : hp1.IsList l vs.toArray := ⟨_, (N _ hm).1, rfl, n, rfl⟩
  exact kun_lenL hl (k := (vs.length : Int)) (by simp) (by omega) h
theorem m_lenT {hp1 : Heap} {tk1 : Nat} {vs : List Value} {n : Nat} {Q : Value → Shared → Prop} (N : News h₀ L hp1 news) (hm : (l, ({ cls := .type "tuple", data := .seq vs.toArray n } : Obj)) ∈ news) (hz : vs.length ≤ 16384)
    (h : Q (.int (vs.length : Int) (tk1 + 1)) { s with heap := hp1, toks := tk1 + 1 + 1 }) : wpAny (model prog w) A (call (.builtin "len") [.ref l]) Q E { s with heap := hp1, toks := tk1 } := by
  have hl : IsTup hp1 l vs.toArray := ⟨_, (N _ hm).1, rfl, n, rfl⟩
  exact kun_lenT hl (k := (vs.length : Int)) (by simp) (by omega) h
theorem m_itemL {value slice : PySem.Expr} {vs : List Value} {n : Nat} {k : Int} {u : Tok} {x : Value} {Q : Value → Shared → Prop} (N : News h₀ L s.heap news) (hm : (a, W.listOf vs.toArray n) ∈ news) (hx : vs[k.toNat]? = some x) (h0 : 0 ≤ k) (hfit : k < 2 ^ 63) (h : Q x s)
    (hs : subscripted slice false (.ref a) (.int k u) = operate [.ref a, .int k u] (getItem (.ref a) (.int k u)) := by with_unfolding_all rfl) :
    wpAny (model prog w) A (subscriptTail value slice (.ref a) (.int k u)) Q E s :=
  have hl : s.heap.IsList a vs.toArray := ⟨_, (N _ hm).1, rfl, n, rfl⟩
  tail_any hl.typeIs slot_list_getitem.lookup (wpAny_getItem_list hl h0 hfit (by simpa using hx) h) hs
open PyProof.V PySem.Spec in
theorem m_in_some {hp1 : Heap} {tk1 : Nat} {knd : KeyKind prog w Int} {d : Addr} {D : List (PyData × PyData)} {k : Int} {u : Tok} {dv : PyData} {Q : Value → Shared → Prop} (he : knd = intKind prog w) (T : TabAt knd PyData.int hp1 d D) (hl : PySem.Spec.lookup (PyData.int k) D = some dv)
    (h : Q (.bool true) { s with heap := hp1, toks := tk1 + 1 }) : wpAny (model prog w) A (compareOp .In (.int k u) (.ref d)) Q E { s with heap := hp1, toks := tk1 } := by
  subst he
  exact in_intTab T (by rw [hl]; exact h)
open PyProof.V PySem.Spec in
theorem m_in_none {hp1 : Heap} {tk1 : Nat} {knd : KeyKind prog w Int} {d : Addr} {D : List (PyData × PyData)} {k : Int} {u : Tok} {Q : Value → Shared → Prop} (he : knd = intKind prog w) (T : TabAt knd PyData.int hp1 d D) (hl : PySem.Spec.lookup (PyData.int k) D = none)
    (h : Q (.bool false) { s with heap := hp1, toks := tk1 + 1 }) : wpAny (model prog w) A (compareOp .In (.int k u) (.ref d)) Q E { s with heap := hp1, toks := tk1 } := by
  subst he
  exact in_intTab T (by rw [hl]; exact h)
end
theorem m_cat {prog : Program} {w : World} {A : Around} {E : Value → Shared → Prop} {s : Shared} {hp1 : Heap} {tk1 : Nat} {x y : Str} {t u : Tok} {Q : Value → Shared → Prop} (hs : x.length + y.length ≤ 16777216) (h : ∀ t' k', Q (.str (x ++ y) t') { s with heap := hp1, toks := k' }) :
    wpAny (model prog w) A (binaryOp .Add (.str x t) (.str y u)) Q E { s with heap := hp1, toks := tk1 } := PyProof.Rows.add_str h hs
section
variable {M : Model} {A : Around} {E : Value → Shared → Prop} {s : Shared} {h₀ hp1 : Heap} {L a : Addr} {m : Str → Option Value} {cn : Str} {cs : Scope} {ccd : Value} {cl : List (Str × Addr)} {tk1 : Nat} {x : Str} {Q : Unit → Shared → Prop} {news : List (Addr × Obj)}
/-- a name stored; the tokens are told no more -/
theorem m_storeV {v : Value} (F : Fr h₀ L hp1 m) (N : News h₀ L hp1 news) (h : ∀ (h' : Heap) (k' : Nat), Fr h₀ L h' (fun y => if y = x then some v else m y) → News h₀ L h' news → Q () { s with heap := h', toks := k' })
    (hk : cs.kind = .function) (hx : (envX cn cs L a ccd cl).kindOf x = some .local) : wpAny M A (storeName (envX cn cs L a ccd cl) x v) Q E { s with heap := hp1, toks := tk1 } := storeX_L F N (fun h' F' N' => h h' _ F' N') hk hx
theorem m_storeI {k : Int} {t : Tok} (F : Fr h₀ L hp1 m) (N : News h₀ L hp1 news) (h : ∀ (h' : Heap) (t' : Tok) (k' : Nat), Fr h₀ L h' (fun y => if y = x then some (.int k t') else m y) → News h₀ L h' news → Q () { s with heap := h', toks := k' })
    (hk : cs.kind = .function) (hx : (envX cn cs L a ccd cl).kindOf x = some .local) : wpAny M A (storeName (envX cn cs L a ccd cl) x (.int k t)) Q E { s with heap := hp1, toks := tk1 } := storeX_L F N (fun h' F' N' => h h' _ _ F' N') hk hx
theorem m_storeS {k : Str} {t : Tok} (F : Fr h₀ L hp1 m) (N : News h₀ L hp1 news) (h : ∀ (h' : Heap) (t' : Tok) (k' : Nat), Fr h₀ L h' (fun y => if y = x then some (.str k t') else m y) → News h₀ L h' news → Q () { s with heap := h', toks := k' })
    (hk : cs.kind = .function) (hx : (envX cn cs L a ccd cl).kindOf x = some .local) : wpAny M A (storeName (envX cn cs L a ccd cl) x (.str k t)) Q E { s with heap := hp1, toks := tk1 } := storeX_L F N (fun h' F' N' => h h' _ _ F' N') hk hx
end
end Mine

-- B0_loop
namespace Mine
open PySem.Spec PyProof.V PySem.Calls

def Hold (P : Prop) : Prop := P
theorem hold_ {P : Prop} (h : Hold P) : P := h
theorem mem_tail {α : Type} {a b : α} {l : List α} (h : a ∈ l) : a ∈ b :: l := .tail _ h
theorem mem_head {α : Type} {a : α} {l : List α} : a ∈ a :: l := .head _
theorem fr_of {h₀ h : Heap} {L : Addr} {m : Str → Option Value} (m' : Str → Option Value) (F : Fr h₀ L h m) (e : m = m') : Fr h₀ L h m' := e ▸ F

def setN : List (Str × Value) → (Str → Option Value) → Str → Option Value
  | [], m => m
  | (n, v) :: r, m => fun z => if z = n then some v else setN r m z

theorem setN_self {m : Str → Option Value} : ∀ {l : List (Str × Value)}, (∀ p ∈ l, m p.1 = some p.2) → ∀ z, m z = setN l m z
  | [], _, _ => rfl
  | (n, v) :: r, h, z => by
    show m z = if z = n then some v else setN r m z
    by_cases e : z = n
    · subst e; rw [if_pos rfl]; exact h _ (.head _)
    · rw [if_neg e]; exact setN_self (fun p hp => h p (.tail _ hp)) z

def offI (I : Addr) (news : List (Addr × Obj)) : List (Addr × Obj) := news.filter fun p => p.1 != I
theorem mem_offI {I : Addr} {news : List (Addr × Obj)} {p : Addr × Obj} : p ∈ offI I news ↔ p ∈ news ∧ p.1 ≠ I := by simp [offI]

def MEnd (h₀ : Heap) (L : Addr) (x : Str) (names stored : List Str) (m₀ : Str → Option Value) (J : List Value → List (Addr × Obj) → Prop) (I : Addr) (it : Obj) (fix : List (Addr × Obj)) (s₁ s₂ : Shared) : Prop :=
  ∃ h' tk m' news' vals, s₂ = { s₁ with heap := h', toks := tk } ∧ Fr h₀ L h' m' ∧ News h₀ L h' news' ∧ (I, it) ∈ news' ∧ (∀ p ∈ fix, p ∈ news') ∧ (∀ z, z ≠ x → stored.contains z = false → m' z = setN (names.zip vals) m₀ z) ∧ J vals (offI I news')
def MPost (h₀ : Heap) (L : Addr) (x : Str) (names stored : List Str) (m₀ : Str → Option Value) (J : List Value → List (Addr × Obj) → Prop) (I : Addr) (it : Obj) (fix : List (Addr × Obj)) (s₁ : Shared) (Q : Flow → Shared → Prop) (f : Flow) (s₂ : Shared) : Prop :=
  match f with
  | .ret v => Q (.ret v) s₂
  | .brk => Q .next s₂
  | _ => MEnd h₀ L x names stored m₀ J I it fix s₁ s₂

def SubJ (news : List (Addr × Obj)) (_ : Nat) (_ : List Value) (news' : List (Addr × Obj)) : Prop := ∀ p ∈ news, p ∈ news'
def KP (K : Flow → Shared → Prop) (f : Flow) (s : Shared) : Prop := K f s
theorem MEnd.intro {h₀ : Heap} {L : Addr} {x : Str} {names stored : List Str} {m₀ : Str → Option Value} {J : List Value → List (Addr × Obj) → Prop} {I : Addr} {it : Obj} {fix : List (Addr × Obj)} {s₁ : Shared} {h' : Heap} {tk : Nat} {m' : Str → Option Value} {news' : List (Addr × Obj)} (vals : List Value)
    (F : Fr h₀ L h' m') (N : News h₀ L h' news') (hI : (I, it) ∈ news') (hf : ∀ p ∈ fix, p ∈ news') (hm : ∀ z, z ≠ x → stored.contains z = false → m' z = setN (names.zip vals) m₀ z) (hj : J vals (offI I news')) :
    MEnd h₀ L x names stored m₀ J I it fix s₁ { s₁ with heap := h', toks := tk } := ⟨h', tk, m', news', vals, rfl, F, N, hI, hf, hm, hj⟩

section
variable {prog : Program} {w : World} {A : Around} {E : Value → Shared → Prop} {s : Shared} {env : Env} {h₀ : Heap} {x : Str} {body : List Stmt} {Q : Flow → Shared → Prop}

theorem m_loop {I : Addr} {fp : List Addr} {n : Nat} {P : Nat → Value → Prop} {St : Nat → Heap → Prop} {s₂ : Shared} {m₀ m₁' : Str → Option Value} {news fix : List (Addr × Obj)} {itc : String} (names stored : List Str) (vals₀ : List Value)
    (J : Nat → List Value → List (Addr × Obj) → Prop)
    (W : Walks prog w A I fp [I] n P St) (hL : env.locals ∉ fp) (hI : h₀.get? I = none) (hfp : ∀ b ∈ fp, b = I ∨ ∃ o, (b, o) ∈ fix) (hfix : ∀ p ∈ fix, p ∈ news) (hnI : ∀ p ∈ news, p.1 ≠ I) (hIfp : I ∈ fp)
    (hcls : ∀ i h, St i h → ∃ it : Obj, h.get? I = some it ∧ it.cls = .type itc)
    (st0 : St 0 s₂.heap) (F : Fr h₀ env.locals s₂.heap m₁') (N : News h₀ env.locals s₂.heap news) (hj : J 0 vals₀ news) (hm₀ : ∀ z, z ≠ x → stored.contains z = false → m₁' z = setN (names.zip vals₀) m₀ z)
    (turn : ∀ i v it h tk vals (u : Str → Option Value) news₁, i < n → P i v → it.cls = .type itc → (∀ p ∈ news₁, p.1 ≠ I) → (∀ p ∈ fix, p ∈ news₁) → J i vals news₁ →
      Fr h₀ env.locals h (fun z => if z = x then some v else if stored.contains z then u z else setN (names.zip vals) m₀ z) → News h₀ env.locals h ((I, it) :: news₁) →
      ∀ K : Flow → Shared → Prop, (∀ f s', MPost h₀ env.locals x names stored m₀ (J (i + 1)) I it fix { s₂ with heap := h, toks := tk } Q f s' → K f s') → wpAny (model prog w) A (execs body env) (KP K) E { s₂ with heap := h, toks := tk })
    (done : ∀ vals (u : Str → Option Value) news₁ h tk, J n vals news₁ → (∀ p ∈ fix, p ∈ news₁) → Fr h₀ env.locals h (fun z => if z = x then u z else if stored.contains z then u z else setN (names.zip vals) m₀ z) → News h₀ env.locals h news₁ → Q .next { s₂ with heap := h, toks := tk }) :
    LoopAtV prog w A h₀ env x body Q E (.ref I) s₂ := by
  let J' : Nat → (Str → Option Value) → List (Addr × Obj) → Prop := fun i m news₁ => (∀ p ∈ fix, p ∈ news₁) ∧ ∃ vals, J i vals news₁ ∧ ∀ z, z ≠ x → stored.contains z = false → m z = setN (names.zip vals) m₀ z
  refine ⟨I, fp, [I], n, P, St, m₁', news, J', rfl, W, hL, ?_, ?_, st0, F, N, ⟨hfix, vals₀, hj, hm₀⟩, ?_, ?_⟩
  · intro b hb
    rw [List.mem_singleton.mp hb]; exact hI
  · intro p hp hq
    exact hnI p hp (List.mem_singleton.mp hq)
  · rintro i v m₁ news₁ s₁ own ⟨hh, tk', rfl⟩ hin hP ⟨hfx, vals, hJ, hm⟩ hoff hown hget hall hst F₁ N₁
    obtain ⟨it, hit, hic⟩ := hcls _ _ hst
    have hmemI := hall I hIfp hI it hit
    have hoff' : ∀ p ∈ news₁, p.1 ≠ I := fun p hp e => hoff p hp (List.mem_singleton.mpr e)
    have N₂ : News h₀ env.locals hh ((I, it) :: news₁) := fun p hp => by
      rcases List.mem_cons.mp hp with rfl | hp
      · exact N₁ _ (List.mem_append_left _ hmemI)
      · exact N₁ _ (List.mem_append_right _ hp)
    have e : (fun y => if y = x then some v else m₁ y) = fun z => if z = x then some v else if stored.contains z then m₁ z else setN (names.zip vals) m₀ z := by
      funext z
      by_cases h1 : z = x
      · simp [h1]
      · simp only [if_neg h1]
        cases h3 : stored.contains z with
        | true => simp
        | false => simp only [Bool.false_eq_true, if_false]; exact hm z h1 h3
    rw [e] at F₁
    refine wpAny_mono (turn i v it hh tk' vals m₁ news₁ hin hP hic hoff' hfx hJ F₁ N₂ _ fun _ _ p => p) (fun f s₃ p => ?_) fun _ _ e => e
    have fin : MEnd h₀ env.locals x names stored m₀ (J (i + 1)) I it fix { s₂ with heap := hh, toks := tk' } s₃ → LoopStepU h₀ env.locals [I] own (J' (i + 1)) { s₂ with heap := hh, toks := tk' } .next s₃ := by
      rintro ⟨h', tk, m', news', vals', e, F', N', hI', hf', hm', hj'⟩
      refine ⟨rfl, h', tk, m', offI I news', e, F', fun p hp => ?_, fun p hp hq => (mem_offI.mp hp).2 (List.mem_singleton.mp hq), fun p hp => mem_offI.mpr ⟨hf' p hp, hoff' p (hfx p hp)⟩, vals', hj', hm'⟩
      rcases List.mem_append.mp hp with hp | hp
      · rcases hfp _ (hown p hp) with h1 | ⟨o, h1⟩
        · have h2 := hget p hp
          have h3 : p = (I, it) := by
            rw [h1] at h2
            exact Prod.ext h1 (Option.some.inj (h2.symm.trans hit))
          rw [h3]; exact N' _ hI'
        · have h2 := hget p hp
          have h4 := (N₁ _ (List.mem_append_right own (hfx _ h1))).1
          have h3 : p = (p.1, o) := Prod.ext rfl (Option.some.inj (h2.symm.trans h4))
          rw [h3]; exact N' _ (hf' _ h1)
      · exact N' _ (mem_offI.mp hp).1
    cases f with
    | ret v => exact .ret p
    | brk => exact .brk p
    | next => exact .next (fin p)
    | cont => exact .cont (fin p)
  · rintro h' tk m' news' F' N' _ ⟨hfx, vals, hJ, hm⟩
    refine done vals m' news' h' tk hJ hfx ?_ N'
    have e : (fun z => if z = x then m' z else if stored.contains z then m' z else setN (names.zip vals) m₀ z) = m' := by
      funext z
      by_cases h1 : z = x
      · simp [h1]
      · simp only [if_neg h1]
        cases h3 : stored.contains z with
        | true => simp
        | false => simp only [Bool.false_eq_true, if_false]; exact (hm z h1 h3).symm
    rw [e]; exact F'

/-- a loop over a list or a tuple of the ledger -/
theorem m_forL {hp : Heap} {tk0 : Nat} {l : Addr} {lo : Obj} {vs : List Value} {k : Nat} {m₀ : Str → Option Value} {news : List (Addr × Obj)} (names stored : List Str) (vals₀ : List Value)
    (J : Nat → List Value → List (Addr × Obj) → Prop)
    (hh : A.handled = none) (hm : (l, lo) ∈ news) (hc : lo.cls = .type "list") (hd : lo.data = .seq vs.toArray k)
    (F : Fr h₀ env.locals hp m₀) (N : News h₀ env.locals hp news) (hj : J 0 vals₀ news) (hm₀ : ∀ p ∈ names.zip vals₀, m₀ p.1 = some p.2)
    (turn : ∀ I i v it h tk vals (u : Str → Option Value) news₁, (∀ p ∈ news, p.1 < I) → vs[i]? = some v → it.cls = .type "list_iterator" → (∀ p ∈ news₁, p.1 ≠ I) → (l, lo) ∈ news₁ → J i vals news₁ →
      Fr h₀ env.locals h (fun z => if z = x then some v else if stored.contains z then u z else setN (names.zip vals) m₀ z) → News h₀ env.locals h ((I, it) :: news₁) →
      ∀ K : Flow → Shared → Prop, (∀ f s', MPost h₀ env.locals x names stored m₀ (J (i + 1)) I it [(l, lo)] { s with heap := h, toks := tk } Q f s' → K f s') → wpAny (model prog w) A (execs body env) (KP K) E { s with heap := h, toks := tk })
    (done : ∀ vals (u : Str → Option Value) news₁ h tk, J vs.length vals news₁ → (l, lo) ∈ news₁ → Fr h₀ env.locals h (fun z => if z = x then u z else if stored.contains z then u z else setN (names.zip vals) m₀ z) → News h₀ env.locals h news₁ → Q .next { s with heap := h, toks := tk }) :
    wpAny (model prog w) A (pyIter (.ref l)) (fun it s₂ => LoopAtV prog w A h₀ env x body Q E it s₂) E { s with heap := hp, toks := tk0 } := by
  have hax := N _ hm
  have hl : hp.IsList l vs.toArray := ⟨lo, hax.1, hc, k, hd⟩
  have hlt : l < hp.objs.size := Heap.lt_size hax.1
  have hne : l ≠ hp.objs.size := Nat.ne_of_lt hlt
  refine wpAny_pyIter_list hl ?_
  have hlen : vs.toArray.size = vs.length := by simp
  have W := Walks.list (prog := prog) (w := w) hh hp.objs.size l hne vs.toArray
  rw [hlen] at W
  refine m_loop (fix := [(l, lo)]) (itc := "list_iterator") names stored vals₀ J W ?_ (next_is_new F) ?_ ?_ (fun p hp => Nat.ne_of_lt (Heap.lt_size (N p hp).1)) (.head _) (fun i h st => let ⟨o, h1, h2, _⟩ := st.1; ⟨o, h1, h2⟩) ⟨⟨_, Heap.get?_push_size _ rfl, rfl, rfl⟩, hl.at fun o e => Heap.get?_push_of_some _ e⟩ (F.push _) (fun p hp => ⟨Heap.get?_push_of_some _ (N p hp).1, (N p hp).2⟩) hj (fun z _ _ => setN_self hm₀ z) ?_ ?_
  · intro hmm
    rcases List.mem_cons.mp hmm with e | hmm
    · exact absurd F.ns.lt (e ▸ Nat.lt_irrefl _)
    · exact hax.2.1 (List.mem_singleton.mp hmm).symm
  · intro b hb
    rcases List.mem_cons.mp hb with e | hb
    · exact .inl e
    · exact .inr ⟨lo, by rw [List.mem_singleton.mp hb]; exact .head _⟩
  · intro p hp
    rw [List.mem_singleton.mp hp]; exact hm
  · intro i v it h tk vals u news₁ _ hP hic hoff hf hJ F₁ N₁
    exact turn _ i v it h tk vals u news₁ (fun p hp => Heap.lt_size (N p hp).1) (by simpa using hP) hic hoff (hf _ (.head _)) hJ F₁ N₁
  · intro vals u news₁ h tk hJ hf F₁ N₁
    exact done vals u news₁ h tk hJ (hf _ (.head _)) F₁ N₁

theorem m_forT {hp : Heap} {tk0 : Nat} {l : Addr} {lo : Obj} {vs : List Value} {k : Nat} {m₀ : Str → Option Value} {news : List (Addr × Obj)} (names stored : List Str) (vals₀ : List Value)
    (J : Nat → List Value → List (Addr × Obj) → Prop)
    (hh : A.handled = none) (hm : (l, lo) ∈ news) (hc : lo.cls = .type "tuple") (hd : lo.data = .seq vs.toArray k)
    (F : Fr h₀ env.locals hp m₀) (N : News h₀ env.locals hp news) (hj : J 0 vals₀ news) (hm₀ : ∀ p ∈ names.zip vals₀, m₀ p.1 = some p.2)
    (turn : ∀ I i v it h tk vals (u : Str → Option Value) news₁, (∀ p ∈ news, p.1 < I) → vs[i]? = some v → it.cls = .type "tuple_iterator" → (∀ p ∈ news₁, p.1 ≠ I) → (l, lo) ∈ news₁ → J i vals news₁ →
      Fr h₀ env.locals h (fun z => if z = x then some v else if stored.contains z then u z else setN (names.zip vals) m₀ z) → News h₀ env.locals h ((I, it) :: news₁) →
      ∀ K : Flow → Shared → Prop, (∀ f s', MPost h₀ env.locals x names stored m₀ (J (i + 1)) I it [(l, lo)] { s with heap := h, toks := tk } Q f s' → K f s') → wpAny (model prog w) A (execs body env) (KP K) E { s with heap := h, toks := tk })
    (done : ∀ vals (u : Str → Option Value) news₁ h tk, J vs.length vals news₁ → (l, lo) ∈ news₁ → Fr h₀ env.locals h (fun z => if z = x then u z else if stored.contains z then u z else setN (names.zip vals) m₀ z) → News h₀ env.locals h news₁ → Q .next { s with heap := h, toks := tk }) :
    wpAny (model prog w) A (pyIter (.ref l)) (fun it s₂ => LoopAtV prog w A h₀ env x body Q E it s₂) E { s with heap := hp, toks := tk0 } := by
  have hax := N _ hm
  have hl : hp.IsTuple l vs.toArray := ⟨lo, hax.1, hc, k, hd⟩
  have hlt : l < hp.objs.size := Heap.lt_size hax.1
  have hne : l ≠ hp.objs.size := Nat.ne_of_lt hlt
  refine wpAny_pyIter_tuple hl ?_
  have hlen : vs.toArray.size = vs.length := by simp
  have W := Walks.tuple (prog := prog) (w := w) hh hp.objs.size l hne vs.toArray
  rw [hlen] at W
  refine m_loop (fix := [(l, lo)]) (itc := "tuple_iterator") names stored vals₀ J W ?_ (next_is_new F) ?_ ?_ (fun p hp => Nat.ne_of_lt (Heap.lt_size (N p hp).1)) (.head _) (fun i h st => let ⟨o, h1, h2, _⟩ := st.1; ⟨o, h1, h2⟩) ⟨⟨_, Heap.get?_push_size _ rfl, rfl, rfl⟩, hl.at fun o e => Heap.get?_push_of_some _ e⟩ (F.push _) (fun p hp => ⟨Heap.get?_push_of_some _ (N p hp).1, (N p hp).2⟩) hj (fun z _ _ => setN_self hm₀ z) ?_ ?_
  · intro hmm
    rcases List.mem_cons.mp hmm with e | hmm
    · exact absurd F.ns.lt (e ▸ Nat.lt_irrefl _)
    · exact hax.2.1 (List.mem_singleton.mp hmm).symm
  · intro b hb
    rcases List.mem_cons.mp hb with e | hb
    · exact .inl e
    · exact .inr ⟨lo, by rw [List.mem_singleton.mp hb]; exact .head _⟩
  · intro p hp
    rw [List.mem_singleton.mp hp]; exact hm
  · intro i v it h tk vals u news₁ _ hP hic hoff hf hJ F₁ N₁
    exact turn _ i v it h tk vals u news₁ (fun p hp => Heap.lt_size (N p hp).1) (by simpa using hP) hic hoff (hf _ (.head _)) hJ F₁ N₁
  · intro vals u news₁ h tk hJ hf F₁ N₁
    exact done vals u news₁ h tk hJ (hf _ (.head _)) F₁ N₁

def WEnd (h₀ : Heap) (L : Addr) (names stored : List Str) (m₀ : Str → Option Value) (J : Nat → List Value → List (Addr × Obj) → Prop) (n : Nat) (s₁ s₂ : Shared) : Prop :=
  ∃ h' tk m' news' vals n', s₂ = { s₁ with heap := h', toks := tk } ∧ Fr h₀ L h' m' ∧ News h₀ L h' news' ∧ n' < n ∧ (∀ z, stored.contains z = false → m' z = setN (names.zip vals) m₀ z) ∧ J n' vals news'
def WPost (h₀ : Heap) (L : Addr) (names stored : List Str) (m₀ : Str → Option Value) (J : Nat → List Value → List (Addr × Obj) → Prop) (n : Nat) (s₁ : Shared) (Q : Flow → Shared → Prop) (f : Flow) (s₂ : Shared) : Prop :=
  match f with
  | .ret v => Q (.ret v) s₂
  | .brk => Q .next s₂
  | _ => WEnd h₀ L names stored m₀ J n s₁ s₂
theorem WEnd.intro {L : Addr} {names stored : List Str} {m₀ : Str → Option Value} {J : Nat → List Value → List (Addr × Obj) → Prop} {n n' : Nat} {s₁ : Shared} {h' : Heap} {tk : Nat} {m' : Str → Option Value} {news' : List (Addr × Obj)} (vals : List Value)
    (F : Fr h₀ L h' m') (N : News h₀ L h' news') (hn : n' < n) (hm : ∀ z, stored.contains z = false → m' z = setN (names.zip vals) m₀ z) (hj : J n' vals news') :
    WEnd h₀ L names stored m₀ J n s₁ { s₁ with heap := h', toks := tk } := ⟨h', tk, m', news', vals, n', rfl, F, N, hn, hm, hj⟩

theorem setN_of {m₀ m' : Str → Option Value} : ∀ {names : List Str}, (names.all fun x => (m' x).isSome) = true → ∀ z, (names.contains z = false → m' z = m₀ z) → m' z = setN (names.zip (names.map fun x => (m' x).getD .none)) m₀ z
  | [], _, z, hm => hm rfl
  | n :: r, h, z, hm => by
    rw [List.all_cons, Bool.and_eq_true] at h
    show m' z = if z = n then some ((m' n).getD .none) else setN (r.zip (r.map fun x => (m' x).getD .none)) m₀ z
    by_cases e : z = n
    · subst e
      rw [if_pos rfl]
      cases q : m' z with
      | none => rw [q] at h; cases h.1
      | some v => rfl
    · rw [if_neg e]
      exact setN_of h.2 z fun hr => hm (by rw [List.contains_cons, hr, Bool.or_false]; simpa using e)

theorem WEnd.of {L : Addr} {names stored : List Str} {m₀ : Str → Option Value} {J : Nat → List Value → List (Addr × Obj) → Prop} {n n' : Nat} {s₁ : Shared} {h' : Heap} {tk : Nat} {m' : Str → Option Value} {news' : List (Addr × Obj)}
    (F : Fr h₀ L h' m') (N : News h₀ L h' news') (hn : n' < n) (hs : (names.all fun x => (m' x).isSome) = true) (hm : ∀ z, stored.contains z = false → names.contains z = false → m' z = m₀ z) (hj : J n' (names.map fun x => (m' x).getD .none) news') :
    WEnd h₀ L names stored m₀ J n s₁ { s₁ with heap := h', toks := tk } := ⟨h', tk, m', news', _, n', rfl, F, N, hn, fun z hz => setN_of hs z (hm z hz), hj⟩
theorem MEnd.of {L : Addr} {x : Str} {names stored : List Str} {m₀ : Str → Option Value} {J : List Value → List (Addr × Obj) → Prop} {I : Addr} {it : Obj} {fix : List (Addr × Obj)} {s₁ : Shared} {h' : Heap} {tk : Nat} {m' : Str → Option Value} {news' : List (Addr × Obj)}
    (F : Fr h₀ L h' m') (N : News h₀ L h' news') (hI : (I, it) ∈ news') (hf : ∀ p ∈ fix, p ∈ news') (hs : (names.all fun x => (m' x).isSome) = true) (hm : ∀ z, z ≠ x → stored.contains z = false → names.contains z = false → m' z = m₀ z) (hj : J (names.map fun x => (m' x).getD .none) (offI I news')) :
    MEnd h₀ L x names stored m₀ J I it fix s₁ { s₁ with heap := h', toks := tk } := ⟨h', tk, m', news', _, rfl, F, N, hI, hf, fun z h1 h2 => setN_of hs z (hm z h1 h2), hj⟩

theorem m_while {hp : Heap} {tk0 : Nat} {L : Addr} {test : PySem.Expr} {pos : Pos} {m₀ : Str → Option Value} {news : List (Addr × Obj)} (names stored : List Str) (vals₀ : List Value) {n₀ : Nat}
    (J : Nat → List Value → List (Addr × Obj) → Prop) (F : Fr h₀ L hp m₀) (N : News h₀ L hp news) (hj : J n₀ vals₀ news) (hm₀ : ∀ p ∈ names.zip vals₀, m₀ p.1 = some p.2)
    (turn : ∀ n vals (u : Str → Option Value) news₁ h tk, J n vals news₁ → Fr h₀ L h (fun z => if stored.contains z then u z else setN (names.zip vals) m₀ z) → News h₀ L h news₁ →
      ∀ K : Flow → Shared → Prop, (∀ f s', WPost h₀ L names stored m₀ J n { s with heap := h, toks := tk } Q f s' → K f s') → wpAny (model prog w) A (isTrue test env (eval test env)) (fun b s₂ => if b = true then wpAny (model prog w) A (execs body env) (KP K) E s₂ else Q .next s₂) E { s with heap := h, toks := tk })
    (hE : PassesOwn (model prog w) A env E := by passes_own) :
    wpAny (model prog w) A (exec (.While test body [] pos) env) Q E { s with heap := hp, toks := tk0 } := by
  refine While_inv2 (fun n m₁ news₁ => ∃ vals, J n vals news₁ ∧ ∀ z, stored.contains z = false → m₁ z = setN (names.zip vals) m₀ z) F N ⟨vals₀, hj, fun z _ => setN_self hm₀ z⟩ ?_ hE
  rintro n m₁ news₁ h tk F₁ N₁ ⟨vals, hJ, hm⟩
  have e : m₁ = fun z => if stored.contains z then m₁ z else setN (names.zip vals) m₀ z := by
    funext z
    cases h3 : stored.contains z with
    | true => simp
    | false => simp only [Bool.false_eq_true, if_false]; exact hm z h3
  rw [e] at F₁
  refine wpAny_mono (turn n vals m₁ news₁ h tk hJ F₁ N₁ _ fun _ _ p => p) (fun b s₂ hb => ?_) fun _ _ e => e
  cases b with
  | false => simpa using hb
  | true =>
    simp only [if_true] at hb ⊢
    refine wpAny_mono hb (fun f s₃ hf => ?_) fun _ _ e => e
    cases f with
    | ret v => exact hf
    | brk => exact hf
    | next => obtain ⟨h', tk, m', news', vals', n', e, F', N', hn, hm', hj'⟩ := hf; exact ⟨h', tk, m', news', n', e, F', N', hn, vals', hj', hm'⟩
    | cont => obtain ⟨h', tk, m', news', vals', n', e, F', N', hn, hm', hj'⟩ := hf; exact ⟨h', tk, m', news', n', e, F', N', hn, vals', hj', hm'⟩
end
end Mine

-- A2_defs
namespace Mine
open PySem.Spec PyProof.V

inductive KtAt (news : List (Addr × Obj)) (kt rowsA idxA depA weiA opnA : Addr) : Prop
  | mk (dx : Addr) (h1 h2 h3 h4 h5 : Int) (t1 t2 t3 t4 t5 : Tok) (n : Nat) (hm : (kt, instObj 79 dx) ∈ news)
    (hd : (dx, dictOf [⟨h1, .str (Str.ofString "rows") t1, .ref rowsA⟩, ⟨h2, .str (Str.ofString "index") t2, .ref idxA⟩, ⟨h3, .str (Str.ofString "depths") t3, .ref depA⟩, ⟨h4, .str (Str.ofString "weights") t4, .ref weiA⟩, ⟨h5, .str (Str.ofString "opens") t5, .ref opnA⟩] n) ∈ news) : KtAt news kt rowsA idxA depA weiA opnA

theorem KtAt.mono {news news' : List (Addr × Obj)} {kt a1 a2 a3 a4 a5 : Addr} (h : KtAt news kt a1 a2 a3 a4 a5) (hs : ∀ p ∈ news, p ∈ news') : KtAt news' kt a1 a2 a3 a4 a5 :=
  h.rec fun dx h1 h2 h3 h4 h5 t1 t2 t3 t4 t5 n hm hd => ⟨dx, h1, h2, h3, h4, h5, t1, t2, t3, t4, t5, n, hs _ hm, hs _ hd⟩

def NamesAt (w : World) (news : List (Addr × Obj)) (namesA : Addr) (nm : Nat → Option Str) : Prop :=
  (namesA == sysModules) = false ∧ ∃ o kvs D, (namesA, o) ∈ news ∧ o.IsDictOf (intKind PySem.Challenge.rw_xw0069_01.row.prog w) kvs ∧ FlatPairs PyData.int kvs D ∧ ∀ n : Nat, PySem.Spec.lookup (PyData.int (n : Int)) D = (nm n).map PyData.str

theorem NamesAt.mono {w : World} {news news' : List (Addr × Obj)} {a : Addr} {nm : Nat → Option Str} (h : NamesAt w news a nm) (hs : ∀ p ∈ news, p ∈ news') : NamesAt w news' a nm :=
  let ⟨lo, o, kvs, D, hm, r⟩ := h; ⟨lo, o, kvs, D, hs _ hm, r⟩

abbrev numText (n : Nat) : Str := Str.ofString (toString (n : Int))
def nameText (nm : Nat → Option Str) (tid : Nat) : Str := (nm tid).getD (Str.ofString "T" ++ numText tid)
end Mine

-- A3_shows
namespace Mine

/-- a row of a table -/
inductive TRow where
  | two (s x : Nat)
  | three (s tid : Nat) (args : List Nat)
  | four (o mid : Nat) (args : List Nat)

def zs (l : List Nat) : List Int := l.map fun (n : Nat) => (n : Int)

abbrev tupOf (vs : List Value) (n : Nat) : Obj := { cls := .type "tuple", data := .seq vs.toArray n }

/-- the ledger bears the row at v -/
inductive RowIn2 (news : List (Addr × Obj)) (v : Value) (s x : Nat) : Prop
  | mk (a : Addr) (t1 t2 : Tok) (n : Nat) (e : v = .ref a) (h : (a, tupOf [.int (s : Int) t1, .int (x : Int) t2] n) ∈ news) : RowIn2 news v s x
inductive RowIn3 (news : List (Addr × Obj)) (v : Value) (s tid : Nat) (args : List Nat) : Prop
  | mk (a b : Addr) (vs : List Value) (t1 t2 : Tok) (n n' : Nat) (e : v = .ref a) (h : (a, tupOf [.int (s : Int) t1, .int (tid : Int) t2, .ref b] n) ∈ news) (h' : (b, tupOf vs n') ∈ news) (i : IntsAre vs (zs args)) : RowIn3 news v s tid args
inductive RowIn4 (news : List (Addr × Obj)) (v : Value) (o mid : Nat) (args : List Nat) : Prop
  | mk (a b : Addr) (vs : List Value) (t0 t1 t2 : Tok) (n n' : Nat) (e : v = .ref a) (h : (a, tupOf [.int 10 t0, .int (o : Int) t1, .int (mid : Int) t2, .ref b] n) ∈ news) (h' : (b, tupOf vs n') ∈ news) (i : IntsAre vs (zs args)) : RowIn4 news v o mid args
def RowIn (news : List (Addr × Obj)) (v : Value) (r : TRow) : Prop :=
  match r with
  | .two s x => RowIn2 news v s x
  | .three s tid args => RowIn3 news v s tid args
  | .four o mid args => RowIn4 news v o mid args
/-- all that a row needs of the ledger is its tuples -/
theorem RowIn.tups {news news' : List (Addr × Obj)} {v : Value} (hs : ∀ a vs n, (a, tupOf vs n) ∈ news → (a, tupOf vs n) ∈ news') {r : TRow} (h : RowIn news v r) : RowIn news' v r := by
  cases r with
  | two s x => exact RowIn2.rec (fun a t1 t2 n e h => ⟨a, t1, t2, n, e, hs _ _ _ h⟩) h
  | three s tid as => exact RowIn3.rec (fun a b vs t1 t2 n n' e h h' i => ⟨a, b, vs, t1, t2, n, n', e, hs _ _ _ h, hs _ _ _ h', i⟩) h
  | four o mid as => exact RowIn4.rec (fun a b vs t0 t1 t2 n n' e h h' i => ⟨a, b, vs, t0, t1, t2, n, n', e, hs _ _ _ h, hs _ _ _ h', i⟩) h
theorem RowIn.mono {news news' : List (Addr × Obj)} {v : Value} (hs : ∀ p ∈ news, p ∈ news') {r : TRow} (h : RowIn news v r) : RowIn news' v r := h.tups fun _ _ _ => hs _

def primWord (k : Nat) : Str :=
  ([Str.ofString "void", Str.ofString "bool", Str.ofString "char", Str.ofString "sbyte", Str.ofString "byte", Str.ofString "short", Str.ofString "ushort", Str.ofString "int", Str.ofString "uint", Str.ofString "long", Str.ofString "ulong",
    Str.ofString "native int", Str.ofString "object", Str.ofString "string", Str.ofString "null", Str.ofString "?"] : List Str).getD k (Str.ofString "")

def arPre (s : Nat) : Str := if s = 8 then Str.ofString "boxed " else if s = 9 then Str.ofString "readonly " else if s = 11 then Str.ofString "raw " else Str.ofString ""
def arPost (s : Nat) : Str := if s = 4 then Str.ofString "[]" else if s = 5 then Str.ofString "&" else if s = 9 then Str.ofString "&" else Str.ofString ""
def isAround (s : Nat) : Prop := s = 4 ∨ s = 5 ∨ s = 8 ∨ s = 9 ∨ s = 11

mutual
/-- kind k at a level is told by t; c bounds the calls, d the nesting -/
inductive Shows (rows : List TRow) (nm : Nat → Option Str) : Nat → Nat → Str → Nat → Nat → Prop
  | around {k l s x c d : Nat} {t : Str} : rows[k]? = some (.two s x) → isAround s → Shows rows nm x l t c d → Shows rows nm k l ((arPre s ++ t) ++ arPost s) (c + 1) d
  | prim {k l x c d : Nat} : rows[k]? = some (.two 1 x) → k < 16 → Shows rows nm k l (primWord k) (c + 1) d
  | var {k l x c d : Nat} : rows[k]? = some (.two 6 x) → x < 1000 → Shows rows nm k l (Str.ofString "!" ++ numText x) (c + 1) d
  | mvar {k l x c d : Nat} : rows[k]? = some (.two 7 x) → x < 1000 → Shows rows nm k l (Str.ofString "!!" ++ numText x) (c + 1) d
  | named {k l s tid c d : Nat} {args : List Nat} {t : Str} : rows[k]? = some (.three s tid args) → s = 2 ∨ s = 3 → tid < 1000 → ShowsA rows nm args l t c d → Shows rows nm k l (nameText nm tid ++ t) (c + 1) (d + 1)
  | ftn {k l o mid c c' d : Nat} {args : List Nat} {t t' : Str} : rows[k]? = some (.four o mid args) → mid < 1000 → Shows rows nm o (l + 1) t c d → ShowsA rows nm args l t' c' d →
      Shows rows nm k l (((Str.ofString "method " ++ t) ++ Str.ofString "::") ++ numText mid ++ t') (c + c' + 1) (d + 1)
/-- the arguments' words -/
inductive ShowsA (rows : List TRow) (nm : Nat → Option Str) : List Nat → Nat → Str → Nat → Nat → Prop
  | nil {l c d : Nat} : ShowsA rows nm [] l (Str.ofString "") c d
  | dots {l a c d : Nat} {args : List Nat} : 8 ≤ l → ShowsA rows nm (a :: args) l (Str.ofString "<..>") c d
  | some {l a c d : Nat} {args : List Nat} {ts : List Str} : l < 8 → ShowsL rows nm (a :: args) (l + 1) ts c d → ShowsA rows nm (a :: args) l ((Str.ofString "<" ++ Txt.join (Str.ofString ", ") ts) ++ Str.ofString ">") c d
/-- one word an argument -/
inductive ShowsL (rows : List TRow) (nm : Nat → Option Str) : List Nat → Nat → List Str → Nat → Nat → Prop
  | nil {l c d : Nat} : ShowsL rows nm [] l [] c d
  | cons {l a c c' d : Nat} {args : List Nat} {t : Str} {ts : List Str} : Shows rows nm a l t c d → ShowsL rows nm args l ts c' d → ShowsL rows nm (a :: args) l (t :: ts) (c + c') d
end
end Mine

-- A4_showsfacts
namespace Mine
section
variable {rows : List TRow} {nm : Nat → Option Str}

theorem isAround_ne {s : Nat} (h : isAround s) : s ≠ 1 ∧ s ≠ 6 ∧ s ≠ 7 := by rcases h with h | h | h | h | h <;> subst h <;> decide
def baseText (s k x : Nat) : Str := if s = 1 then primWord k else if s = 6 then Str.ofString "!" ++ numText x else Str.ofString "!!" ++ numText x
def isBase (s k x : Nat) : Prop := (s = 1 ∧ k < 16) ∨ (s = 6 ∧ x < 1000) ∨ (s = 7 ∧ x < 1000)
theorem base_na {s k x : Nat} (h : isBase s k x) : ¬ isAround s := fun h' => by
  have := isAround_ne h'
  rcases h with h | h | h
  · exact this.1 h.1
  · exact this.2.1 h.1
  · exact this.2.2 h.1
theorem some_two {s x s' x' : Nat} {o : Option TRow} (h : o = some (.two s x)) (h' : o = some (.two s' x')) : s = s' ∧ x = x' := by rw [h] at h'; cases h'; exact ⟨rfl, rfl⟩
theorem some_three {s t s' t' : Nat} {a a' : List Nat} {o : Option TRow} (h : o = some (.three s t a)) (h' : o = some (.three s' t' a')) : s = s' ∧ t = t' ∧ a = a' := by rw [h] at h'; cases h'; exact ⟨rfl, rfl, rfl⟩
theorem some_four {s t s' t' : Nat} {a a' : List Nat} {o : Option TRow} (h : o = some (.four s t a)) (h' : o = some (.four s' t' a')) : s = s' ∧ t = t' ∧ a = a' := by rw [h] at h'; cases h'; exact ⟨rfl, rfl, rfl⟩
theorem some_23 {s x s' t' : Nat} {a' : List Nat} {o : Option TRow} (h : o = some (.two s x)) (h' : o = some (.three s' t' a')) : False := by rw [h] at h'; cases h'
theorem some_24 {s x s' t' : Nat} {a' : List Nat} {o : Option TRow} (h : o = some (.two s x)) (h' : o = some (.four s' t' a')) : False := by rw [h] at h'; cases h'
theorem some_34 {s t s' t' : Nat} {a a' : List Nat} {o : Option TRow} (h : o = some (.three s t a)) (h' : o = some (.four s' t' a')) : False := by rw [h] at h'; cases h'
/-- what a kind's word is, by its row -/
def Inv2 (rows : List TRow) (nm : Nat → Option Str) (k s x l : Nat) (t : Str) (c d : Nat) : Prop :=
  (isAround s ∧ ∃ t₀ c₀, c = c₀ + 1 ∧ t = (arPre s ++ t₀) ++ arPost s ∧ Shows rows nm x l t₀ c₀ d) ∨ (isBase s k x ∧ t = baseText s k x ∧ 1 ≤ c)
def Inv3 (rows : List TRow) (nm : Nat → Option Str) (s tid : Nat) (args : List Nat) (l : Nat) (t : Str) (c d : Nat) : Prop :=
  (s = 2 ∨ s = 3) ∧ tid < 1000 ∧ ∃ t₀ c₀ d₀, c = c₀ + 1 ∧ d = d₀ + 1 ∧ t = nameText nm tid ++ t₀ ∧ ShowsA rows nm args l t₀ c₀ d₀
def Inv4 (rows : List TRow) (nm : Nat → Option Str) (o mid : Nat) (args : List Nat) (l : Nat) (t : Str) (c d : Nat) : Prop :=
  mid < 1000 ∧ ∃ t₁ t₂ c₁ c₂ d₀, c = c₁ + c₂ + 1 ∧ d = d₀ + 1 ∧ t = (((Str.ofString "method " ++ t₁) ++ Str.ofString "::") ++ numText mid) ++ t₂ ∧ Shows rows nm o (l + 1) t₁ c₁ d₀ ∧ ShowsA rows nm args l t₂ c₂ d₀
theorem Shows.inv {k l c d : Nat} {t : Str} (S : Shows rows nm k l t c d) :
    (∃ s x, rows[k]? = some (.two s x) ∧ Inv2 rows nm k s x l t c d) ∨ (∃ s tid args, rows[k]? = some (.three s tid args) ∧ Inv3 rows nm s tid args l t c d) ∨ ∃ o mid args, rows[k]? = some (.four o mid args) ∧ Inv4 rows nm o mid args l t c d := by
  cases S with
  | around h hs S => exact .inl ⟨_, _, h, .inl ⟨hs, _, _, rfl, rfl, S⟩⟩
  | prim h h' => exact .inl ⟨_, _, h, .inr ⟨.inl ⟨rfl, h'⟩, rfl, Nat.succ_le_succ (Nat.zero_le _)⟩⟩
  | var h h' => exact .inl ⟨_, _, h, .inr ⟨.inr (.inl ⟨rfl, h'⟩), rfl, Nat.succ_le_succ (Nat.zero_le _)⟩⟩
  | mvar h h' => exact .inl ⟨_, _, h, .inr ⟨.inr (.inr ⟨rfl, h'⟩), rfl, Nat.succ_le_succ (Nat.zero_le _)⟩⟩
  | named h hs h' S => exact .inr (.inl ⟨_, _, _, h, hs, h', _, _, _, rfl, rfl, rfl, S⟩)
  | ftn h h' S SA => exact .inr (.inr ⟨_, _, _, h, h', _, _, _, _, _, rfl, rfl, rfl, S, SA⟩)
theorem Shows.inv2 {k l c d s x : Nat} {t : Str} (S : Shows rows nm k l t c d) (h : rows[k]? = some (.two s x)) : Inv2 rows nm k s x l t c d := by
  rcases S.inv with ⟨s', x', h', i⟩ | ⟨_, _, _, h', _⟩ | ⟨_, _, _, h', _⟩
  · obtain ⟨e1, e2⟩ := some_two h h'; rw [e1, e2]; exact i
  · exact (some_23 h h').elim
  · exact (some_24 h h').elim
theorem Shows.inv3 {k l c d s tid : Nat} {args : List Nat} {t : Str} (S : Shows rows nm k l t c d) (h : rows[k]? = some (.three s tid args)) : Inv3 rows nm s tid args l t c d := by
  rcases S.inv with ⟨s', x', h', i⟩ | ⟨_, _, _, h', i⟩ | ⟨_, _, _, h', _⟩
  · exact (some_23 h' h).elim
  · obtain ⟨e1, e2, e3⟩ := some_three h h'; rw [e1, e2, e3]; exact i
  · exact (some_34 h h').elim
theorem Shows.inv4 {k l c d o mid : Nat} {args : List Nat} {t : Str} (S : Shows rows nm k l t c d) (h : rows[k]? = some (.four o mid args)) : Inv4 rows nm o mid args l t c d := by
  rcases S.inv with ⟨s', x', h', i⟩ | ⟨_, _, _, h', i⟩ | ⟨_, _, _, h', i⟩
  · exact (some_24 h' h).elim
  · exact (some_34 h' h).elim
  · obtain ⟨e1, e2, e3⟩ := some_four h h'; rw [e1, e2, e3]; exact i
theorem ShowsA.inv {as : List Nat} {l c d : Nat} {t : Str} (S : ShowsA rows nm as l t c d) : (as = [] ∧ t = Str.ofString "") ∨ (as ≠ [] ∧ 8 ≤ l ∧ t = Str.ofString "<..>") ∨ (as ≠ [] ∧ l < 8 ∧ ∃ ts, t = (Str.ofString "<" ++ Txt.join (Str.ofString ", ") ts) ++ Str.ofString ">" ∧ ShowsL rows nm as (l + 1) ts c d) := by
  cases S with
  | nil => exact .inl ⟨rfl, rfl⟩
  | dots h => exact .inr (.inl ⟨List.cons_ne_nil _ _, h, rfl⟩)
  | some h S => exact .inr (.inr ⟨List.cons_ne_nil _ _, h, _, rfl, S⟩)
theorem ShowsL.nil_inv {l c d : Nat} {ts : List Str} (S : ShowsL rows nm [] l ts c d) : ts = [] := by cases S; rfl
theorem ShowsL.cons_inv {a l c d : Nat} {as : List Nat} {ts : List Str} (S : ShowsL rows nm (a :: as) l ts c d) : ∃ t ts' c₁ c₂, ts = t :: ts' ∧ c = c₁ + c₂ ∧ Shows rows nm a l t c₁ d ∧ ShowsL rows nm as l ts' c₂ d := by
  cases S with
  | cons S T => exact ⟨_, _, _, _, rfl, rfl, S, T⟩
theorem Shows.fn {k l c d : Nat} {t : Str} (S : Shows rows nm k l t c d) : ∀ {c' d' : Nat} {t' : Str}, Shows rows nm k l t' c' d' → t = t' :=
  Shows.rec (rows := rows) (nm := nm) (motive_1 := fun k l t _ _ _ => ∀ {c' d' : Nat} {t' : Str}, Shows rows nm k l t' c' d' → t = t') (motive_2 := fun as l t _ _ _ => ∀ {c' d' : Nat} {t' : Str}, ShowsA rows nm as l t' c' d' → t = t') (motive_3 := fun as l ts _ _ _ => ∀ {c' d' : Nat} {ts' : List Str}, ShowsL rows nm as l ts' c' d' → ts = ts')
    (@fun _ _ _ _ _ _ _ h hs _ ih _ _ _ S' => by
      rcases S'.inv2 h with ⟨_, t₀, _, _, e, T⟩ | ⟨b, _⟩
      · rw [e, ih T]
      · exact absurd hs (base_na b))
    (@fun _ _ _ _ _ h h' _ _ _ S' => by
      rcases S'.inv2 h with ⟨a, _⟩ | ⟨_, e, _⟩
      · exact absurd rfl (isAround_ne a).1
      · exact e.symm)
    (@fun _ _ _ _ _ h h' _ _ _ S' => by
      rcases S'.inv2 h with ⟨a, _⟩ | ⟨_, e, _⟩
      · exact absurd rfl (isAround_ne a).2.1
      · exact e.symm)
    (@fun _ _ _ _ _ h h' _ _ _ S' => by
      rcases S'.inv2 h with ⟨a, _⟩ | ⟨_, e, _⟩
      · exact absurd rfl (isAround_ne a).2.2
      · exact e.symm)
    (@fun _ _ _ _ _ _ _ _ h _ _ _ ih _ _ _ S' => by
      obtain ⟨_, _, t₀, _, _, _, _, e, T⟩ := S'.inv3 h
      rw [e, ih T])
    (@fun _ _ _ _ _ _ _ _ _ _ h _ _ _ ih ih' _ _ _ S' => by
      obtain ⟨_, t₁, t₂, _, _, _, _, _, e, T, T'⟩ := S'.inv4 h
      rw [e, ih T, ih' T'])
    (@fun _ _ _ _ _ _ S' => by
      rcases S'.inv with ⟨_, e⟩ | ⟨n, _⟩ | ⟨n, _⟩
      · exact e.symm
      · exact absurd rfl n
      · exact absurd rfl n)
    (@fun _ _ _ _ _ hl _ _ _ S' => by
      rcases S'.inv with ⟨e, _⟩ | ⟨_, _, e⟩ | ⟨_, hl', _⟩
      · exact absurd e (List.cons_ne_nil _ _)
      · exact e.symm
      · exact absurd hl' (Nat.not_lt.mpr hl))
    (@fun _ _ _ _ _ _ hl _ ih _ _ _ S' => by
      rcases S'.inv with ⟨e, _⟩ | ⟨_, hl', e⟩ | ⟨_, hl', ts', e, T'⟩
      · exact absurd e (List.cons_ne_nil _ _)
      · exact absurd hl (Nat.not_lt.mpr hl')
      · rw [e, ih T'])
    (@fun _ _ _ _ _ _ T' => T'.nil_inv.symm)
    (@fun _ _ _ _ _ _ _ _ _ _ ih ih' _ _ _ T' => by
      obtain ⟨t, ts', _, _, e, _, T, T''⟩ := T'.cons_inv
      rw [e, ih T, ih' T''])
    S
theorem Shows.pos {k l c d : Nat} {t : Str} (S : Shows rows nm k l t c d) : 1 ≤ c := by cases S <;> exact Nat.succ_le_succ (Nat.zero_le _)

theorem len_app (a b : Str) : (a ++ b).length = a.length + b.length := by
  show (a.cps ++ b.cps).size = _
  rw [Array.size_append]; rfl
theorem numText_len {n : Nat} (h : n < 1000) : (numText n).length ≤ 3 := by
  have all : ∀ n < 1000, (numText n).length ≤ 3 := by decide +kernel
  exact all n h
theorem primWord_len {k : Nat} (h : k < 16) : (primWord k).length ≤ 10 := by
  have all : ∀ k < 16, (primWord k).length ≤ 10 := by decide +kernel
  exact all k h
theorem arPre_len (s : Nat) : (arPre s).length ≤ 9 := by
  unfold arPre
  (repeat' split) <;> decide +kernel
theorem arPost_len (s : Nat) : (arPost s).length ≤ 2 := by
  unfold arPost
  (repeat' split) <;> decide +kernel
theorem l_bang : (Str.ofString "!").length = 1 := by decide +kernel
theorem l_bang2 : (Str.ofString "!!").length = 2 := by decide +kernel
theorem l_meth : (Str.ofString "method ").length = 7 := by decide +kernel
theorem l_col : (Str.ofString "::").length = 2 := by decide +kernel
theorem l_dots : (Str.ofString "<..>").length = 4 := by decide +kernel
theorem l_lt : (Str.ofString "<").length = 1 := by decide +kernel
theorem l_gt : (Str.ofString ">").length = 1 := by decide +kernel
theorem l_comma : (Str.ofString ", ").length = 2 := by decide +kernel
theorem l_nil : (Str.ofString "").length = 0 := by decide +kernel
theorem l_T : (Str.ofString "T").length = 1 := by decide +kernel
theorem nameText_len (hn : ∀ n t, nm n = some t → t.length ≤ 10) {tid : Nat} (h : tid < 1000) : (nameText nm tid).length ≤ 10 := by
  unfold nameText
  cases e : nm tid with
  | some t => exact hn tid t e
  | none =>
    rw [Option.getD_none, len_app, l_T]
    exact Nat.le_trans (Nat.add_le_add_left (numText_len h) 1) (by decide)
theorem Shows.len (hn : ∀ n t, nm n = some t → t.length ≤ 10) {k l c d : Nat} {t : Str} (S : Shows rows nm k l t c d) : t.length + 10 ≤ 40 * c :=
  Shows.rec (rows := rows) (nm := nm) (motive_1 := fun _ _ t c _ _ => t.length + 10 ≤ 40 * c) (motive_2 := fun _ _ t c _ _ => t.length ≤ 40 * c + 4) (motive_3 := fun _ _ ts c _ _ => (ts.map (·.length)).sum + ts.length * 2 ≤ 40 * c)
    (@fun _ _ s _ _ _ _ _ _ _ ih => by have h2 := arPre_len s; have h3 := arPost_len s; rw [len_app, len_app]; omega)
    (@fun _ _ _ _ _ _ h => by have := primWord_len h; omega)
    (@fun _ _ _ _ _ _ h => by have := numText_len h; rw [len_app, l_bang]; omega)
    (@fun _ _ _ _ _ _ h => by have := numText_len h; rw [len_app, l_bang2]; omega)
    (@fun _ _ _ _ _ _ _ _ _ _ h _ ih => by have := nameText_len hn h; rw [len_app]; omega)
    (@fun _ _ _ _ _ _ _ _ _ _ _ h _ _ ih ih' => by have := numText_len h; simp only [len_app, l_meth, l_col]; omega)
    (@fun _ _ _ => by rw [l_nil]; exact Nat.zero_le _)
    (@fun _ _ _ _ _ _ => by rw [l_dots]; exact Nat.le_add_left _ _)
    (@fun _ _ _ _ _ ts _ _ ih => by
      have h5 := StrLaws.join_length_le (Str.ofString ", ") ts
      have h6 : (Txt.join (Str.ofString ", ") ts).length = (Str.join (Str.ofString ", ") ts).length := by
        show (Builtin.Str.glued _ _).length = _
        rw [StrLaws.glued_eq_join]
      rw [l_comma] at h5
      simp only [len_app, l_lt, l_gt]; omega)
    (@fun _ _ _ => Nat.zero_le _)
    (@fun _ _ _ _ _ _ _ _ _ _ ih ih' => by simp only [List.map_cons, List.sum_cons, List.length_cons]; omega)
    S
theorem ShowsL.len (hn : ∀ n t, nm n = some t → t.length ≤ 10) {as : List Nat} {l c d : Nat} {ts : List Str} (S : ShowsL rows nm as l ts c d) : (ts.map (·.length)).sum + ts.length * 2 ≤ 40 * c :=
  ShowsL.rec (rows := rows) (nm := nm) (motive_1 := fun _ _ _ _ _ _ => True) (motive_2 := fun _ _ _ _ _ _ => True) (motive_3 := fun _ _ ts c _ _ => (ts.map (·.length)).sum + ts.length * 2 ≤ 40 * c)
    (by intros; trivial) (by intros; trivial) (by intros; trivial) (by intros; trivial) (by intros; trivial) (by intros; trivial) (by intros; trivial) (by intros; trivial) (by intros; trivial)
    (@fun _ _ _ => Nat.zero_le _)
    (@fun _ _ _ _ _ _ _ _ S _ _ ih' => by have := S.len hn; simp only [List.map_cons, List.sum_cons, List.length_cons]; omega)
    S
theorem ShowsA.len (hn : ∀ n t, nm n = Option.some t → t.length ≤ 10) {as : List Nat} {l c d : Nat} {t : Str} (S : ShowsA rows nm as l t c d) : t.length ≤ 40 * c + 4 := by
  rcases S.inv with ⟨_, e⟩ | ⟨_, _, e⟩ | ⟨_, _, ts, e, T⟩
  · rw [e, l_nil]; exact Nat.zero_le _
  · rw [e, l_dots]; exact Nat.le_add_left _ _
  · have h3 := T.len hn
    have h5 := StrLaws.join_length_le (Str.ofString ", ") ts
    have h6 : (Txt.join (Str.ofString ", ") ts).length = (Str.join (Str.ofString ", ") ts).length := by
      show (Builtin.Str.glued _ _).length = _
      rw [StrLaws.glued_eq_join]
    rw [l_comma] at h5
    rw [e]
    simp only [len_app, l_lt, l_gt]; omega
theorem le_split {a b c : Nat} (h : a + b ≤ c) : ∃ b', c = a + b' ∧ b ≤ b' := ⟨c - a, by omega, by omega⟩
theorem Shows.up {k l c d : Nat} {t : Str} (S : Shows rows nm k l t c d) : ∀ {c' d' : Nat}, c ≤ c' → d ≤ d' → Shows rows nm k l t c' d' :=
  Shows.rec (rows := rows) (nm := nm) (motive_1 := fun k l t c d _ => ∀ {c' d' : Nat}, c ≤ c' → d ≤ d' → Shows rows nm k l t c' d') (motive_2 := fun as l t c d _ => ∀ {c' d' : Nat}, c ≤ c' → d ≤ d' → ShowsA rows nm as l t c' d') (motive_3 := fun as l ts c d _ => ∀ {c' d' : Nat}, c ≤ c' → d ≤ d' → ShowsL rows nm as l ts c' d')
    (@fun _ _ _ _ _ _ _ h hs _ ih c' _ hc hd => match c', hc with | _ + 1, hc => .around h hs (ih (Nat.le_of_succ_le_succ hc) hd))
    (@fun _ _ _ _ _ h h' c' _ hc _ => match c', hc with | _ + 1, _ => .prim h h')
    (@fun _ _ _ _ _ h h' c' _ hc _ => match c', hc with | _ + 1, _ => .var h h')
    (@fun _ _ _ _ _ h h' c' _ hc _ => match c', hc with | _ + 1, _ => .mvar h h')
    (@fun _ _ _ _ _ _ _ _ h hs h' _ ih c' d' hc hd => match c', d', hc, hd with | _ + 1, _ + 1, hc, hd => .named h hs h' (ih (Nat.le_of_succ_le_succ hc) (Nat.le_of_succ_le_succ hd)))
    (@fun _ _ _ _ _ _ _ _ _ _ h h' _ _ ih ih' c' d' hc hd => match c', d', hc, hd with
      | _ + 1, _ + 1, hc, hd => by
        obtain ⟨b, e, hb⟩ := le_split (Nat.le_of_succ_le_succ hc)
        rw [e]
        exact .ftn h h' (ih (Nat.le_refl _) (Nat.le_of_succ_le_succ hd)) (ih' hb (Nat.le_of_succ_le_succ hd)))
    (@fun _ _ _ _ _ _ _ => .nil)
    (@fun _ _ _ _ _ hl _ _ _ _ => .dots hl)
    (@fun _ _ _ _ _ _ hl _ ih _ _ hc hd => .some hl (ih hc hd))
    (@fun _ _ _ _ _ _ _ => .nil)
    (@fun _ _ _ _ _ _ _ _ _ _ ih ih' _ _ hc hd => by
      obtain ⟨b, e, hb⟩ := le_split hc
      rw [e]
      exact .cons (ih (Nat.le_refl _) hd) (ih' hb hd))
    S
end
end Mine

-- A5_level
namespace Mine
open PySem.Spec PyProof.V PySem.Calls

theorem lift_mem {old news : List (Addr × Obj)} {q : Addr × Obj} (h : ∀ p ∈ old, p ∈ news) (hq : q ∈ old) : q ∈ news := h q hq
theorem lift_cons {old news : List (Addr × Obj)} {q : Addr × Obj} (h : ∀ p ∈ old, p ∈ news) : ∀ p ∈ old, p ∈ q :: news := fun p hp => .tail _ (h p hp)
theorem lift_ne {l l' : List (Addr × Obj)} {d : Addr} {q : Addr × Obj} (h : ∀ p ∈ l, p.1 ≠ d → p ∈ l') (hm : q ∈ l) (hn : q.1 ≠ d) : q ∈ l' := h q hm hn
theorem ne_new {l : List (Addr × Obj)} {a b : Addr} {o : Obj} (h : ∀ p ∈ l, p.1 < a) (hm : (b, o) ∈ l) : a ≠ b := fun e => absurd (h _ hm) (by rw [e]; exact Nat.lt_irrefl _)

section
variable {prog : Program} {w : World} {K : Type} [DecidableEq K] {knd : KeyKind prog w K} {enc : K → PyData} {news news' : List (Addr × Obj)} {d : Addr} {D : List (PyData × PyData)}
theorem tt_cons {q : Addr × Obj} (T : TupTab knd enc news d D) : TupTab knd enc (q :: news) d D := T.cons q
theorem tt_mono (T : TupTab knd enc news d D) (hs : ∀ p ∈ news, p ∈ news') : TupTab knd enc news' d D := by
  obtain ⟨lo, o, es, ep, xs, hm, hc, hd, he, hn, hk, hf⟩ := T
  exact ⟨lo, o, es, ep, xs, hs _ hm, hc, hd, he, hn, fun x hx => (hk x hx).elim fun okx h => ⟨okx, hs _ h.1, h.2⟩, hf⟩
theorem tt_mem (T : TupTab knd enc news d D) : ∃ o : Obj, (d, o) ∈ news ∧ o.cls = .type "dict" :=
  by
  obtain ⟨_, o, _, _, _, hm, hc, _⟩ := T
  exact ⟨o, hm, hc.1⟩
/-- what is no dict stands apart from the table, its keys too -/
theorem tt_change {l : Addr} {h₀ h : Heap} {L : Addr} (N : News h₀ L h news) (T : TupTab knd enc news d D) {o : Obj} (hl : (l, o) ∈ news) (hc : o.cls = .type "list") (hs : ∀ p ∈ news, p.1 ≠ l → p ∈ news') : TupTab knd enc news' d D := by
  obtain ⟨lo, o', es, ep, xs, hm, hc', hd, he, hn, hk, hf⟩ := T
  have ne : ∀ {b : Addr} {ob : Obj} {s : String}, (b, ob) ∈ news → ob.cls = .type s → s ≠ "list" → b ≠ l := by
    intro b ob s hb hcb hsn e
    subst e
    have h1 := (N _ hb).1
    have h2 := (N _ hl).1
    rw [h1] at h2
    cases h2
    rw [hcb] at hc
    injection hc with hc
    exact hsn hc
  exact ⟨lo, o', es, ep, xs, hs _ hm (ne hm hc'.1 (by decide)), hc', hd, he, hn, fun x hx => let ⟨okx, hmk, t⟩ := hk x hx; ⟨okx, hs _ hmk (ne hmk t.1 (by decide)), t⟩, hf⟩
end

section
variable {prog : Program} {w : World} {A : Around} {E : Value → Shared → Prop} {s : Shared} {h₀ : Heap} {L l : Addr} {m : Str → Option Value} {news : List (Addr × Obj)}
theorem m_append {hp1 : Heap} {tk1 : Nat} {vs : List Value} {n : Nat} {v : Value} {Q : Value → Shared → Prop} (F : Fr h₀ L hp1 m) (N : News h₀ L hp1 news) (hm : (l, W.listOf vs.toArray n) ∈ news) (hz : vs.length ≤ 16384)
    (h : ∀ h' news', Fr h₀ L h' m → News h₀ L h' news' → (l, W.listOf (vs ++ [v]).toArray (n + 1)) ∈ news' → (∀ p ∈ news, p.1 ≠ l → p ∈ news') → Q .none { s with heap := h', toks := tk1 }) :
    wpAny (model prog w) A (call (.builtin "list.append") [.ref l, v]) Q E { s with heap := hp1, toks := tk1 } := by
  have z := N _ hm
  refine append_at (hsz := by rw [List.size_toArray]; have : sizeLine = 16777216 := rfl; omega) z.1 fun h' hs ho' => ?_
  have e : (vs.toArray.push v) = (vs ++ [v]).toArray := by simp
  rw [e] at ho'
  refine h h' (news.map fun p => if p.1 = l then (l, W.listOf (vs ++ [v]).toArray (n + 1)) else p) (F.change hs z.2.1 z.2.2) (N.replace hs ho') (List.mem_map.mpr ⟨_, hm, by simp⟩) fun p hp hne => List.mem_map.mpr ⟨p, hp, by simp [hne]⟩
end

abbrev PG : Program := PySem.Challenge.rw_xw0069_01.row.prog

def TextsOk (rows : List TRow) (nm : Nat → Option Str) (D : List (PyData × PyData)) : Prop :=
  ∀ (k l : Nat) (v : PyData), PySem.Spec.lookup (encTuple PyData.int [(k : Int), (l : Int)]) D = some v → ∃ t c d, v = .str t ∧ Shows rows nm k l t c d

/-- what a call of show_kind reads -/
def ShowEnv (w : World) (old : List (Addr × Obj)) (kt namesA : Addr) (rows : List TRow) (nm : Nat → Option Str) : Prop :=
  (∃ (rowsA idxA depA weiA opnA : Addr) (vs : List Value) (nn : Nat), KtAt old kt rowsA idxA depA weiA opnA ∧ (rowsA, W.listOf vs.toArray nn) ∈ old ∧ vs.length < 1000 ∧ ∀ (k : Nat) (r : TRow), rows[k]? = some r → ∃ v, vs[k]? = some v ∧ RowIn old v r) ∧
  NamesAt w old namesA nm ∧ (∀ n t, nm n = some t → t.length ≤ 10) ∧ (∀ (k s tid : Nat) (args : List Nat), rows[k]? = some (.three s tid args) → args.length ≤ 16384) ∧ ∀ (k o mid : Nat) (args : List Nat), rows[k]? = some (.four o mid args) → args.length ≤ 16384

def LPre (w : World) (old : List (Addr × Obj)) (textsA : Addr) (D : List (PyData × PyData)) (news : List (Addr × Obj)) : Prop :=
  (∀ p ∈ old, p ∈ news) ∧ TupTab (intKind PG w) PyData.int news textsA D
def LPost (w : World) (rows : List TRow) (nm : Nat → Option Str) (old : List (Addr × Obj)) (textsA : Addr) (D : List (PyData × PyData)) (c : Nat) (t : Str) (news : List (Addr × Obj)) (r : Value) (news' : List (Addr × Obj)) : Prop :=
  (∃ tk, r = .str t tk) ∧ (∀ p ∈ news, p.1 ≠ textsA → p ∈ news') ∧ (∀ p ∈ old, p ∈ news') ∧ ∃ D', TupTab (intKind PG w) PyData.int news' textsA D' ∧ TextsOk rows nm D' ∧ D'.length ≤ D.length + c

def LevelOk (w : World) (rows : List TRow) (nm : Nat → Option Str) (old : List (Addr × Obj)) (kt namesA textsA : Addr) (n : Nat) : Prop :=
  ∀ (k l : Nat) (t : Str) (c d : Nat) (D : List (PyData × PyData)) (ki li : Int) (tk tl : Tok), c ≤ n → Shows rows nm k l t c d → ki = (k : Int) → li = (l : Int) → TextsOk rows nm D → D.length + c ≤ 400000 →
    Ctl w (.ref 229) [.ref kt, .int ki tk, .ref namesA, .int li tl, .ref textsA] (4 * d + 10) (80 * d + 240) (LPre w old textsA D) (LPost w rows nm old textsA D c t)

theorem LevelOk.use {hp0 : Heap} {tk0 : Nat} {w : World} {rows : List TRow} {nm : Nat → Option Str} {old : List (Addr × Obj)} {kt namesA textsA : Addr} {n : Nat} (H : LevelOk w rows nm old kt namesA textsA n)
    {k l : Nat} {t : Str} {c d : Nat} {D : List (PyData × PyData)} {ki li : Int} {tk tl : Tok}
    {dp un : Nat} {gd : Option (List Code)} {cn : Str} {cs : Scope} {a : Addr} {ccd : Value} {cl : List (Str × Addr)} {outer : List Env} {A₀ : Around} {base h₀ : Heap} {L : Addr} {m : Str → Option Value} {news : List (Addr × Obj)} {s : Shared}
    {mean : ExcName → Option Value} {mg mb : Str → Option Value} {Q E : Value → Shared → Prop}
    (S : Shows rows nm k l t c d) (hki : ki = (k : Int)) (hli : li = (l : Int)) (hc : c ≤ n) (ok : TextsOk rows nm D) (hlen : D.length + c ≤ 400000)
    (B : Below A₀ base outer h₀) (F : Fr h₀ L hp0 m) (X : (hd.heap_1 w.params).In h₀) (N : News h₀ L hp0 news)
    (T : Top hd.view_1 (looseW hd.view_1 [Str.ofString "TID_PRIM", Str.ofString "AROUND_WORDS"]) mean mg mb h₀) (hk : cs.kind = .function)
    (hold : ∀ p ∈ old, p ∈ news) (TT : TupTab (intKind PG w) PyData.int news textsA D)
    (hd : dp + (4 * d + 10) < recursionLimit) (hu : un + (80 * d + 240) < cLine)
    (ret : ∀ tk' h' tk₁ news' D', Fr h₀ L h' m → News h₀ L h' news' → (∀ p ∈ news, p.1 ≠ textsA → p ∈ news') → (∀ p ∈ old, p ∈ news') → TupTab (intKind PG w) PyData.int news' textsA D' → TextsOk rows nm D' → D'.length ≤ D.length + c →
      Q (.str t tk') { s with heap := h', toks := tk₁ }) :
    wpAny (model PySem.Challenge.rw_xw0069_01.row.prog w) (ktrTop dp un gd cn cs L a ccd cl outer) (call (.ref 229) [.ref kt, .int ki tk, .ref namesA, .int li tl, .ref textsA]) Q E { s with heap := hp0, toks := tk0 } :=
  Ctl.use (H k l t c d D ki li tk tl hc S hki hli ok hlen) B F X N T hk ⟨hold, TT⟩ hd hu fun r h' tk' news' F' N' ⟨⟨t', e⟩, s1, s2, D', TT', ok', l'⟩ => e ▸ ret t' h' tk' news' D' F' N' s1 s2 TT' ok' l'
end Mine
namespace Mine
open PySem.Spec PyProof.V PySem.Calls
theorem Ctl.u0 {hp0 : Heap} {tk0 : Nat} {w : World} {f : Value} {args : List Value} {dpN unN : Nat} {pre : List (Addr × Obj) → Prop} {v : Value} {P : List (Addr × Obj) → List (Addr × Obj) → Prop} (C : Ctl w f args dpN unN pre fun news r news' => r = v ∧ P news news')
    {dp un : Nat} {gd : Option (List Code)} {cn : Str} {cs : Scope} {a : Addr} {ccd : Value} {cl : List (Str × Addr)} {outer : List Env} {A₀ : Around} {base h₀ : Heap} {L : Addr} {m : Str → Option Value} {news : List (Addr × Obj)} {s : Shared}
    {mean : ExcName → Option Value} {mg mb : Str → Option Value} {Q E : Value → Shared → Prop}
    (B : Below A₀ base outer h₀) (F : Fr h₀ L hp0 m) (X : (hd.heap_1 w.params).In h₀) (N : News h₀ L hp0 news)
    (T : Top hd.view_1 (looseW hd.view_1 [Str.ofString "TID_PRIM", Str.ofString "AROUND_WORDS"]) mean mg mb h₀) (hk : cs.kind = .function) (hp : pre news) (hd : dp + dpN < recursionLimit) (hu : un + unN < cLine)
    (ret : ∀ h' tk' news', Fr h₀ L h' m → News h₀ L h' news' → P news news' → Q v { s with heap := h', toks := tk' }) :
    wpAny (model PySem.Challenge.rw_xw0069_01.row.prog w) (ktrTop dp un gd cn cs L a ccd cl outer) (call f args) Q E { s with heap := hp0, toks := tk0 } :=
  C.use B F X N T hk hp hd hu fun _ h' tk' news' F' N' p => p.1 ▸ ret h' tk' news' F' N' p.2
theorem Ctl.u1 {hp0 : Heap} {tk0 : Nat} {w : World} {f : Value} {args : List Value} {dpN unN : Nat} {pre : List (Addr × Obj) → Prop} {ι : Type} {v : ι → Value} {P : ι → List (Addr × Obj) → List (Addr × Obj) → Prop} (C : Ctl w f args dpN unN pre fun news r news' => ∃ i, r = v i ∧ P i news news')
    {dp un : Nat} {gd : Option (List Code)} {cn : Str} {cs : Scope} {a : Addr} {ccd : Value} {cl : List (Str × Addr)} {outer : List Env} {A₀ : Around} {base h₀ : Heap} {L : Addr} {m : Str → Option Value} {news : List (Addr × Obj)} {s : Shared}
    {mean : ExcName → Option Value} {mg mb : Str → Option Value} {Q E : Value → Shared → Prop}
    (B : Below A₀ base outer h₀) (F : Fr h₀ L hp0 m) (X : (hd.heap_1 w.params).In h₀) (N : News h₀ L hp0 news)
    (T : Top hd.view_1 (looseW hd.view_1 [Str.ofString "TID_PRIM", Str.ofString "AROUND_WORDS"]) mean mg mb h₀) (hk : cs.kind = .function) (hp : pre news) (hd : dp + dpN < recursionLimit) (hu : un + unN < cLine)
    (ret : ∀ i h' tk' news', Fr h₀ L h' m → News h₀ L h' news' → P i news news' → Q (v i) { s with heap := h', toks := tk' }) :
    wpAny (model PySem.Challenge.rw_xw0069_01.row.prog w) (ktrTop dp un gd cn cs L a ccd cl outer) (call f args) Q E { s with heap := hp0, toks := tk0 } :=
  C.use B F X N T hk hp hd hu fun _ h' tk' news' F' N' p => p.elim fun i p => p.1 ▸ ret i h' tk' news' F' N' p.2
theorem Ctl.uL {hp0 : Heap} {tk0 : Nat} {w : World} {rows : List TRow} {nm : Nat → Option Str} {old : List (Addr × Obj)} {textsA : Addr} {D : List (PyData × PyData)} {c : Nat} {t : Str} {f : Value} {args : List Value} {dpN unN : Nat} (C : Ctl w f args dpN unN (LPre w old textsA D) (LPost w rows nm old textsA D c t))
    {dp un : Nat} {gd : Option (List Code)} {cn : Str} {cs : Scope} {a : Addr} {ccd : Value} {cl : List (Str × Addr)} {outer : List Env} {A₀ : Around} {base h₀ : Heap} {L : Addr} {m : Str → Option Value} {news : List (Addr × Obj)} {s : Shared}
    {mean : ExcName → Option Value} {mg mb : Str → Option Value} {Q E : Value → Shared → Prop}
    (B : Below A₀ base outer h₀) (F : Fr h₀ L hp0 m) (X : (hd.heap_1 w.params).In h₀) (N : News h₀ L hp0 news)
    (T : Top hd.view_1 (looseW hd.view_1 [Str.ofString "TID_PRIM", Str.ofString "AROUND_WORDS"]) mean mg mb h₀) (hk : cs.kind = .function) (hold : ∀ p ∈ old, p ∈ news) (TT : TupTab (intKind PG w) PyData.int news textsA D) (hd : dp + dpN < recursionLimit) (hu : un + unN < cLine)
    (ret : ∀ tk' h' tk₁ news' D', Fr h₀ L h' m → News h₀ L h' news' → (∀ p ∈ news, p.1 ≠ textsA → p ∈ news') → (∀ p ∈ old, p ∈ news') → TupTab (intKind PG w) PyData.int news' textsA D' → TextsOk rows nm D' → D'.length ≤ D.length + c →
      Q (.str t tk') { s with heap := h', toks := tk₁ }) :
    wpAny (model PySem.Challenge.rw_xw0069_01.row.prog w) (ktrTop dp un gd cn cs L a ccd cl outer) (call f args) Q E { s with heap := hp0, toks := tk0 } :=
  C.use B F X N T hk ⟨hold, TT⟩ hd hu fun r h' tk' news' F' N' ⟨⟨t', e⟩, s1, s2, D', TT', ok', l'⟩ => e ▸ ret t' h' tk' news' D' F' N' s1 s2 TT' ok' l'
theorem LPost.mk {w : World} {rows : List TRow} {nm : Nat → Option Str} {old : List (Addr × Obj)} {textsA : Addr} {D D' : List (PyData × PyData)} {c : Nat} {t t' : Str} {news news' : List (Addr × Obj)} {tk : Tok} (e : t' = t) (s1 : ∀ p ∈ news, p.1 ≠ textsA → p ∈ news') (s2 : ∀ p ∈ old, p ∈ news')
    (TT : TupTab (intKind PG w) PyData.int news' textsA D') (ok : TextsOk rows nm D') (l : D'.length ≤ D.length + c) : LPost w rows nm old textsA D c t news (.str t' tk) news' := ⟨⟨tk, by rw [e]⟩, s1, s2, D', TT, ok, l⟩
end Mine
namespace Mine
open PySem.Spec PyProof.V PySem.Calls
theorem Ctl.wk {w : World} {f : Value} {args : List Value} {dpN unN dpN' unN' : Nat} {pre pre' : List (Addr × Obj) → Prop} {post post' : List (Addr × Obj) → Value → List (Addr × Obj) → Prop} (C : Ctl w f args dpN unN pre post)
    (h1 : ∀ news, pre' news → pre news) (hd : dpN ≤ dpN') (hu : unN ≤ unN') (h2 : ∀ news r news', pre' news → post news r news' → post' news r news') : Ctl w f args dpN' unN' pre' post' :=
  fun dp un gd cn cs a ccd cl outer A₀ base h₀ L m news s mean mg mb Q E B F X N T hk hp hr hu' ret =>
    C dp un gd cn cs a ccd cl outer A₀ base h₀ L m news s mean mg mb Q E B F X N T hk (h1 _ hp) (Nat.lt_of_le_of_lt (Nat.add_le_add_left hd dp) hr) (Nat.lt_of_le_of_lt (Nat.add_le_add_left hu un) hu') fun r h' tk' news' F' N' p => ret r h' tk' news' F' N' (h2 _ _ _ hp p)
end Mine

-- B1_dicts
namespace Mine
open PySem.Spec PyProof.V PySem.Calls

def arEs : Array DictEntry := #[⟨4, .int 4 276, .ref 211⟩, ⟨5, .int 5 278, .ref 212⟩, ⟨8, .int 8 284, .ref 213⟩, ⟨9, .int 9 286, .ref 214⟩, ⟨11, .int 11 290, .ref 215⟩]
def tpEs : Array DictEntry := #[⟨20, .int 20 296, .int 0 238⟩, ⟨9, .int 9 297, .int 1 240⟩, ⟨10, .int 10 298, .int 2 242⟩, ⟨11, .int 11 299, .int 3 244⟩, ⟨12, .int 12 300, .int 4 246⟩, ⟨13, .int 13 301, .int 5 248⟩, ⟨14, .int 14 302, .int 6 250⟩,
  ⟨15, .int 15 303, .int 7 252⟩, ⟨16, .int 16 304, .int 8 254⟩, ⟨17, .int 17 305, .int 9 256⟩, ⟨18, .int 18 306, .int 10 258⟩, ⟨19, .int 19 307, .int 11 260⟩, ⟨1, .int 1 308, .int 12 262⟩, ⟨4, .int 4 309, .int 13 264⟩]

section
variable {w : World} {h h₀ : Heap} {L d : Addr} {m : Str → Option Value} {A : Around} {E : Value → Shared → Prop} {s : Shared} {es : Array DictEntry}
abbrev PP : Program := PySem.Challenge.rw_xw0069_01.row.prog

def IntEs : List DictEntry → Prop
  | [] => True
  | e :: r => (∃ k t, e.key = .int k t ∧ e.hash = hashInt k) ∧ IntEs r
theorem IntEs.at : ∀ {l : List DictEntry}, IntEs l → ∀ e ∈ l, ∃ k t, e.key = .int k t ∧ e.hash = hashInt k
  | [], _, _, he => nomatch he
  | _ :: _, h, e, he => by
    rcases List.mem_cons.mp he with rfl | he
    · exact h.1
    · exact IntEs.at h.2 e he

theorem map_of_K {ep : Nat} (X : (hd.heap_1 w.params).In h) (hl : (hd.heap_1 w.params).lookup d = some { cls := .type "dict", data := .dict es ep }) (hk : IntEs es.toList) : h.MapOf (intKind PP w) d (findBy Value.isInt es) :=
  ⟨_, es, ep, X _ _ hl, ⟨rfl, rfl, rfl⟩, rfl, fun e he => by
    obtain ⟨k, t, e1, e2⟩ := hk.at e (Array.mem_toList_iff.mpr he)
    exact ⟨k, by rw [e1]; simp [intKind, Value.isInt], e2⟩, fun _ => rfl⟩

theorem ar_map (X : (hd.heap_1 w.params).In h) : h.MapOf (intKind PP w) 210 (findBy Value.isInt arEs) :=
  map_of_K (ep := 5) X (by kernel_rfl) ⟨⟨_, _, rfl, rfl⟩, ⟨_, _, rfl, rfl⟩, ⟨_, _, rfl, rfl⟩, ⟨_, _, rfl, rfl⟩, ⟨_, _, rfl, rfl⟩, trivial⟩
theorem tp_map (X : (hd.heap_1 w.params).In h) : h.MapOf (intKind PP w) 47 (findBy Value.isInt tpEs) :=
  map_of_K (ep := 14) X (by kernel_rfl) ⟨⟨_, _, rfl, rfl⟩, ⟨_, _, rfl, rfl⟩, ⟨_, _, rfl, rfl⟩, ⟨_, _, rfl, rfl⟩, ⟨_, _, rfl, rfl⟩, ⟨_, _, rfl, rfl⟩, ⟨_, _, rfl, rfl⟩, ⟨_, _, rfl, rfl⟩, ⟨_, _, rfl, rfl⟩, ⟨_, _, rfl, rfl⟩, ⟨_, _, rfl, rfl⟩, ⟨_, _, rfl, rfl⟩, ⟨_, _, rfl, rfl⟩, ⟨_, _, rfl, rfl⟩, trivial⟩

theorem m_arIn {hp1 : Heap} {tk1 : Nat} {k : Int} {u : Tok} {b : Bool} {Q : Value → Shared → Prop} (F : Fr h₀ L hp1 m) (X : (hd.heap_1 w.params).In h₀) (hb : (findBy Value.isInt arEs k).isSome = b) (h : Q (.bool b) { s with heap := hp1, toks := tk1 + 1 }) :
    wpAny (model PP w) A (compareOp .In (.int k u) (.ref 210)) Q E { s with heap := hp1, toks := tk1 } :=
  wpAny_in_of (intKind_is PP w k u) (by decide) (ar_map (X.keeps F.keep)) (by rw [hb]; exact h)
theorem m_arItem {hp1 : Heap} {tk1 : Nat} {value slice : PySem.Expr} {k : Int} {u : Tok} {v : Value} {Q : Value → Shared → Prop} (F : Fr h₀ L hp1 m) (X : (hd.heap_1 w.params).In h₀) (hv : findBy Value.isInt arEs k = some v) (h : Q v { s with heap := hp1, toks := tk1 + 1 })
    (hs : subscripted slice false (.ref 210) (.int k u) = operate [.ref 210, .int k u] (getItem (.ref 210) (.int k u)) := by with_unfolding_all rfl) (hg : ∀ r, letTemporaryGo value (.ref 210) r = pure () := by intro _; with_unfolding_all rfl) :
    wpAny (model PP w) A (subscriptTail value slice (.ref 210) (.int k u)) Q E { s with heap := hp1, toks := tk1 } :=
  have M := ar_map (w := w) (X.keeps F.keep)
  subscriptTail_builtin M.typeIs slot_dict_getitem.lookup (wpAny_getItem_of (intKind_is PP w k u) M hv h) hs hg
theorem m_tpIn {hp1 : Heap} {tk1 : Nat} {k : Int} {u : Tok} {b : Bool} {Q : Value → Shared → Prop} (F : Fr h₀ L hp1 m) (X : (hd.heap_1 w.params).In h₀) (hb : (findBy Value.isInt tpEs k).isSome = b) (h : Q (.bool b) { s with heap := hp1, toks := tk1 + 1 }) :
    wpAny (model PP w) A (compareOp .In (.int k u) (.ref 47)) Q E { s with heap := hp1, toks := tk1 } :=
  wpAny_in_of (intKind_is PP w k u) (by decide) (tp_map (X.keeps F.keep)) (by rw [hb]; exact h)
theorem ar4 : findBy Value.isInt arEs 4 = some (.ref 211) := rfl
theorem ar5 : findBy Value.isInt arEs 5 = some (.ref 212) := rfl
theorem ar8 : findBy Value.isInt arEs 8 = some (.ref 213) := rfl
theorem ar9 : findBy Value.isInt arEs 9 = some (.ref 214) := rfl
theorem ar11 : findBy Value.isInt arEs 11 = some (.ref 215) := rfl
def under (b : Int) (l : List DictEntry) : Bool := l.all fun e => match e.key with | .int j _ => decide (j < b) | _ => false
theorem find_no {es : Array DictEntry} {k b : Int} (hb : under b es.toList = true) (h : b ≤ k) : (findBy Value.isInt es k).isSome = false := by
  unfold findBy
  cases q : es.find? fun e => Value.isInt k e.key with
  | none => rfl
  | some e =>
    have h1 := List.all_eq_true.mp hb e (Array.mem_toList_iff.mpr (Array.mem_of_find?_eq_some q))
    have h2 := Array.find?_some q
    obtain ⟨hh, ek, ev⟩ := e
    cases ek <;> try cases h2
    rename_i i t
    have h3 : i = k := eq_of_beq h2
    subst h3
    exact absurd h (Int.not_le.mpr (of_decide_eq_true h1))
theorem tp_none {k : Int} (h : 30 ≤ k) : (findBy Value.isInt tpEs k).isSome = false := find_no (b := 30) rfl h
theorem ar_none {s : Nat} (h : ¬ isAround s) : (findBy Value.isInt arEs (s : Int)).isSome = false := by
  have hn : ∀ k : Nat, k ≠ s → ((k : Int) == (s : Int)) = false := fun k hk => beq_eq_false_iff_ne.mpr fun e => hk (Int.ofNat.inj e)
  have h4 := hn 4 fun e => h (.inl e.symm)
  have h5 := hn 5 fun e => h (.inr (.inl e.symm))
  have h8 := hn 8 fun e => h (.inr (.inr (.inl e.symm)))
  have h9 := hn 9 fun e => h (.inr (.inr (.inr (.inl e.symm))))
  have h11 := hn 11 fun e => h (.inr (.inr (.inr (.inr e.symm))))
  simp only [findBy, arEs, Value.isInt, List.find?_toArray, List.find?_cons, List.find?_nil]
  rw [show ((4 : Int) == (s : Int)) = false from h4, show ((5 : Int) == (s : Int)) = false from h5, show ((8 : Int) == (s : Int)) = false from h8, show ((9 : Int) == (s : Int)) = false from h9, show ((11 : Int) == (s : Int)) = false from h11]
  rfl
/-- the words round a kind -/
def ArAt (a : Addr) (s : Nat) (t1 t2 : Tok) : Prop := findBy Value.isInt arEs (s : Int) = some (.ref a) ∧ ∀ w : World, (hd.heap_1 w.params).lookup a = some ({ cls := .type "tuple", data := .seq #[.str (arPre s) t1, .str (arPost s) t2] 0 } : Obj)
theorem ar_at {s : Nat} (h : isAround s) : ∃ a t1 t2, ArAt a s t1 t2 := by
  rcases h with e | e | e | e | e <;> subst e
  · exact ⟨211, 551, 552, rfl, fun w => by kernel_rfl⟩
  · exact ⟨212, 553, 554, rfl, fun w => by kernel_rfl⟩
  · exact ⟨213, 555, 556, rfl, fun w => by kernel_rfl⟩
  · exact ⟨214, 557, 558, rfl, fun w => by kernel_rfl⟩
  · exact ⟨215, 559, 560, rfl, fun w => by kernel_rfl⟩
theorem ArAt.tup {a : Addr} {s : Nat} {t1 t2 : Tok} (h : ArAt a s t1 t2) {w : World} {H : Heap} (X : (hd.heap_1 w.params).In H) : IsTup H a #[.str (arPre s) t1, .str (arPost s) t2] := ⟨_, X _ _ (h.2 w), rfl, 0, rfl⟩
end
end Mine

end
local macro_rules | `(tactic| walk_at $k:str) => do
  if ["call ref", "call builtin:list.append", "setItem ref ref", "KP", "pyIter ref", "exec While Compare cons nil", "EltEnd"].contains k.getString then `(tactic| refine Mine.hold_ ?_) else Lean.Macro.throwUnsupported
local macro_rules | `(tactic| walk_at "m_arith") => `(tactic| first
  | with_reducible exact Int.natCast_nonneg _
  | (refine Mine.room1 ?h ?e; (case h => with_reducible assumption); (case e => exact rfl))
  | (refine Mine.room0 ?h ?e; (case h => with_reducible assumption); (case e => exact rfl))
  | (refine Mine.roomZ ?h; (case h => with_reducible assumption))
  | (refine Mine.le_lit ?h ?e; (case h => with_reducible assumption); (case e => exact rfl))
  | (refine Mine.le_lit' ?h ?e; (case h => with_reducible assumption); (case e => exact rfl))
  | (refine Mine.n63 ?h ?e; (case h => with_reducible assumption); (case e => exact rfl))
  | (refine Mine.n63' ?h ?e; (case h => with_reducible assumption); (case e => exact rfl)))
local macro_rules | `(tactic| ktr_room) => `(tactic| first | walk_at "m_arith" | decide)
local macro_rules | `(tactic| ktr_units) => `(tactic| first | walk_at "m_arith" | decide)
local macro_rules | `(tactic| walk_at "m_ctl") => `(tactic| ((case B => k_asm); (case F => k_asm); (case X => k_asm); (case N => k_asm); (case T => k_asm); (case hk => first | exact rfl | assumption); (case d => ktr_room); (case u => ktr_units)))
local macro_rules | `(tactic| walk_at "m_sub") => `(tactic| repeat (first | assumption | refine Mine.lift_cons ?_))
local macro_rules | `(tactic| walk_at "m_tt") => `(tactic| first | assumption | (apply Mine.tt_cons; walk_at "m_tt"))
local macro_rules | `(tactic| k_mem) => `(tactic| first | (with_reducible exact Mine.mem_head) | ktr_member | (with_reducible refine Mine.mem_tail ?_; k_mem) | (solve_by_elim (maxDepth := 7) (transparency := .reducible) [Mine.mem_tail, Mine.mem_head, Mine.ne_new]))
local macro_rules | `(tactic| walk_at "ite") => `(tactic| (k_openite; first | (refine ite_pos ?h ?_; (case h => walk_at "m_dec")) | (refine ite_neg ?h ?_; (case h => walk_at "m_dec"))))
local macro_rules | `(tactic| walk_at "m_dec") => `(tactic| first | exact decide_eq_true (by with_reducible assumption) | exact Mine.ndec (by with_reducible assumption) | (simp only [decide_eq_true_eq, beq_iff_eq, bne_iff_ne, ne_eq]; omega))
local macro_rules | `(tactic| walk_at "eval Call") => `(tactic| refine Call_ ?_)
local macro_rules | `(tactic| walk_at "callWith") => `(tactic| k_dflt ((with_reducible refine' callWith_method1 ?a ?b ?c); (case b => exact rfl); (case c => exact rfl); k_whole))
local macro_rules | `(tactic| walk_at "storeName") => `(tactic| (k_here; k_dflt (first
  | ((with_reducible show wpAny _ _ (storeName _ _ (Value.int _ _)) _ _ _); refine' Mine.m_storeI ?F ?N ?_ ?a ?b; (case F => k_asm); (case N => k_asm); (case a => rfl); (case b => rfl); k_whole; intro h' t' k' F' N'; (try k_sweep))
  | ((with_reducible show wpAny _ _ (storeName _ _ (Value.str _ _)) _ _ _); refine' Mine.m_storeS ?F ?N ?_ ?a ?b; (case F => k_asm); (case N => k_asm); (case a => rfl); (case b => rfl); k_whole; intro h' t' k' F' N'; (try k_sweep))
  | (refine' Mine.m_storeV ?F ?N ?_ ?a ?b; (case F => k_asm); (case N => k_asm); (case a => rfl); (case b => rfl); k_whole; intro h' k' F' N'; (try k_sweep)))))
local macro_rules | `(tactic| walk_at "binaryOp Add str str") => `(tactic| (refine' Mine.m_cat ?hs ?_; (case hs => with_reducible assumption); intro t' k'))

theorem Mine.top_offN1 : True := by w_top off; trivial
theorem Mine.turnN1 {M : Model} {A : Around} {env : Env} {Q : Flow → Shared → Prop} {E : Value → Shared → Prop} {s : Shared} (h : Q .next s) : wpAny M A (execs [] env) Q E s := by walk1; exact h
section
-- A6_args
namespace Mine
open PySem.Spec PyProof.V PySem.Calls

theorem tt_off {prog : Program} {w : World} {K : Type} [DecidableEq K] {knd : KeyKind prog w K} {enc : K → PyData} {news : List (Addr × Obj)} {d I : Addr} {D : List (PyData × PyData)} {it : Obj} {h₀ h : Heap} {L : Addr} {c : String}
    (N : News h₀ L h news) (T : TupTab knd enc news d D) (hI : (I, it) ∈ news) (hc : it.cls = .type c) (h1 : c ≠ "dict") (h2 : c ≠ "tuple") : TupTab knd enc (offI I news) d D := by
  obtain ⟨lo, o', es, ep, xs, hm, hc', hd, he, hn, hk, hf⟩ := T
  have ne : ∀ {b : Addr} {ob : Obj} {s : String}, (b, ob) ∈ news → ob.cls = .type s → c ≠ s → b ≠ I := by
    intro b ob s hb hcb hsn e
    subst e
    have e1 := (N _ hb).1
    have e2 := (N _ hI).1
    rw [e1] at e2
    cases e2
    rw [hcb] at hc
    injection hc with hc
    exact hsn hc.symm
  exact ⟨lo, o', es, ep, xs, mem_offI.mpr ⟨hm, ne hm hc'.1 h1⟩, hc', hd, he, hn, fun x hx => let ⟨okx, hmk, t⟩ := hk x hx; ⟨okx, mem_offI.mpr ⟨hmk, ne hmk t.1 h2⟩, t⟩, hf⟩

theorem List.take_succ_of_drop {α : Type} {l r : List α} {i : Nat} {a : α} (h : l.drop i = a :: r) : l.take (i + 1) = l.take i ++ [a] := by
  have hl : l[i]? = some a := by rw [← List.head?_drop, h]; rfl
  rw [List.take_add_one, hl]; rfl

theorem join_len (sep : Str) (ts : List Str) : (Txt.join sep ts).length ≤ (ts.map (·.length)).sum + ts.length * sep.length := by
  show (Builtin.Str.glued _ _).length ≤ _
  rw [StrLaws.glued_eq_join]
  exact StrLaws.join_length_le sep ts

theorem m_join {hp1 : Heap} {tk1 : Nat} {prog : Program} {w : World} {A : Around} {E : Value → Shared → Prop} {s : Shared} {h₀ : Heap} {L D : Addr} {x : Str} {t : Tok} {n : Nat} {news : List (Addr × Obj)} {ol : List (Str × Tok)} {texts : List Str} {Q : Value → Shared → Prop}
    (N : News h₀ L hp1 news) (hm : (D, W.listOf (strValues ol).toArray n) ∈ news) (ht : ol.map (·.1) = texts) (hok : JoinOk x texts = true)
    (h : ∀ t' k, Q (.str (Txt.join x texts) t') { s with heap := hp1, toks := k }) : wpAny (model prog w) A (call (.builtin "str.join") [.str x t, .ref D]) Q E { s with heap := hp1, toks := tk1 } :=
  SC.join ⟨_, (N _ hm).1, rfl, n, rfl⟩ ht hok h

theorem ints_at {vs : List Value} {as : List Nat} (h : IntsAre vs (zs as)) {i : Nat} {v : Value} (hv : vs[i]? = some v) : ∃ a t, as[i]? = some a ∧ v = .int (a : Int) t := by
  have hl : i < vs.length := (List.getElem?_eq_some_iff.mp hv).1
  have hla : i < as.length := by
    have h1 := h.length
    rw [zs, List.length_map] at h1
    omega
  obtain ⟨t, hx⟩ := h.get i (as[i] : Int) (by simp [zs, hla])
  refine ⟨as[i], t, by simp [hla], ?_⟩
  rw [hv] at hx
  exact Option.some.inj hx

theorem ShowsL.at {rows : List TRow} {nm : Nat → Option Str} : ∀ {as : List Nat} {l c d : Nat} {ts : List Str}, ShowsL rows nm as l ts c d → ts.length = as.length
  | [], _, _, _, _, S => by cases S; rfl
  | _ :: as, _, _, _, _, S => by
    cases S with
    | cons S T => rw [List.length_cons, List.length_cons, ShowsL.at T]

theorem ShowsL.join {rows : List TRow} {nm : Nat → Option Str} {as : List Nat} {l c d : Nat} {ts : List Str} (hn : ∀ n t, nm n = some t → t.length ≤ 10) (S : ShowsL rows nm as l ts c d) (hc : c ≤ 400000) :
    JoinOk (Str.ofString ", ") ts = true ∧ (Txt.join (Str.ofString ", ") ts).length ≤ 16000000 := by
  have h1 := ShowsL.len hn S
  have h2 := join_len (Str.ofString ", ") ts
  rw [l_comma] at h2
  exact ⟨joinOk_of (by rw [l_comma]; omega), by omega⟩

theorem ShowsL.cast {rows : List TRow} {nm : Nat → Option Str} {as : List Nat} {l c d : Nat} {ts ts' : List Str} (e : ts' = ts) (S : ShowsL rows nm as l ts c d) : ShowsL rows nm as l ts' c d := e ▸ S

/-- how far the arguments' loop has come -/
def ArgsJ (w : World) (rows : List TRow) (nm : Nat → Option Str) (old base : List (Addr × Obj)) (textsA outA : Addr) (args : List Nat) (ts : List Str) (l d C c₀ : Nat) (i : Nat) (vals : List Value) (news : List (Addr × Obj)) : Prop :=
  vals = [] ∧ ∃ (ol : List (Str × Tok)) (n : Nat) (D : List (PyData × PyData)) (c : Nat), (outA, W.listOf (strValues ol).toArray n) ∈ news ∧ ol.map (·.1) = ts.take i ∧ ol.length = i ∧
    (∀ p ∈ old, p ∈ news) ∧ (∀ p ∈ base, p.1 ≠ textsA → p ∈ news) ∧ TupTab (intKind PG w) PyData.int news textsA D ∧ TextsOk rows nm D ∧ D.length + c ≤ C ∧ c ≤ c₀ ∧ ShowsL rows nm (args.drop i) l (ts.drop i) c d
end Mine

-- M5_mac
local macro_rules | `(tactic| walk_at "call builtin:len") => `(tactic| (k_here; (with_reducible show wpAny _ _ (call (Value.builtin "len") [Value.ref _]) _ _ _); k_dflt (first | (refine' Mine.m_lenL ?k1 ?k2 ?k3 ?_; (case k1 => k_asm); (case k2 => k_mem); (case k3 => (first | assumption | omega | decide)); k_whole) | (refine' Mine.m_lenT ?k1 ?k2 ?k3 ?_; (case k1 => k_asm); (case k2 => k_mem); (case k3 => (first | assumption | omega | decide)); k_whole))))
local macro_rules | `(tactic| walk_at "call builtin:str.join") => `(tactic| (k_here; (with_reducible show wpAny _ _ (call (Value.builtin "str.join") [Value.str _ _, Value.ref _]) _ _ _); k_dflt (refine' Mine.m_join ?k1 ?k2 ?k3 ?k4 ?_; (case k1 => k_asm); (case k2 => k_mem); (case k3 => assumption); (case k4 => assumption); k_whole); intro t9 k9))

-- A6_args2
namespace Mine
open PySem.Spec PyProof.V PySem.Calls
set_option maxHeartbeats 8000000 in
theorem c_args {w : World} {rows : List TRow} {nm : Nat → Option Str} {old : List (Addr × Obj)} {kt namesA textsA : Addr} {n : Nat} (H : LevelOk w rows nm old kt namesA textsA n) (hnl : ∀ n t, nm n = some t → t.length ≤ 10)
    {args : List Nat} {l c d : Nat} {t : Str} (S : ShowsA rows nm args l t c d) (hc : c ≤ n) {b : Addr} {vs : List Value} {nn : Nat} (hb : (b, tupOf vs nn) ∈ old) (hi : IntsAre vs (zs args)) (hvs : vs.length ≤ 16384) {D : List (PyData × PyData)} (ok : TextsOk rows nm D) (hlen : D.length + c ≤ 400000) {tl : Tok} :
    Ctl w (.ref 257) [.ref kt, .ref b, .ref namesA, .int l tl, .ref textsA] (4 * d + 11) (80 * d + 260) (LPre w old textsA D) (LPost w rows nm old textsA D c t) := by
  unfold Ctl
  k_fill
  intro dp un gd cn cs a ccd cl outer A₀ base h₀ L m news s mean mg mb Q E B F X N T hk hpre hroom hunits ret
  have hold := hpre.1
  have TT := hpre.2
  clear hpre
  have hil : vs.length = args.length := by have := hi.length; rwa [zs, List.length_map] at this
  refine wpAny_call ?_
  k_dflt ktr_enter
  with_reducible rename Fr _ _ _ _ => F1
  replace F1 := fr_of (fun y => List.lookup y [(Str.ofString "texts", Value.ref textsA), (Str.ofString "level", Value.int l tl), (Str.ofString "names", Value.ref namesA), (Str.ofString "args", Value.ref b), (Str.ofString "kt", Value.ref kt)]) F1 (by with_unfolding_all rfl)
  by_cases e0 : args = []
  · have h0 : ((vs.length : Nat) : Int) = 0 := by rw [hil, e0]; rfl
    have et : t = Str.ofString "" := by
      rcases S.inv with ⟨_, e⟩ | ⟨e, _⟩ | ⟨e, _⟩
      · exact e
      · exact absurd e0 e
      · exact absurd e0 e
    k_steps
    all_goals (exact ret _ _ _ _ (by assumption) (by assumption) ⟨⟨_, by rw [et]⟩, fun _ h _ => h, hold, D, TT, ok, Nat.le_add_right _ _⟩)
  have h0 : ¬ ((vs.length : Nat) : Int) = 0 := by rw [hil]; exact fun e => e0 (List.length_eq_zero_iff.mp (Int.ofNat.inj e))
  by_cases hl8 : 8 ≤ l
  · have h8 : (8 : Int) ≤ (l : Int) := Int.ofNat_le.mpr hl8
    have et : t = Str.ofString "<..>" := by
      rcases S.inv with ⟨e, _⟩ | ⟨_, _, e⟩ | ⟨_, e, _⟩
      · exact absurd e e0
      · exact e
      · exact absurd e (Nat.not_lt.mpr hl8)
    k_steps
    all_goals (exact ret _ _ _ _ (by assumption) (by assumption) ⟨⟨_, by rw [et]⟩, fun _ h _ => h, hold, D, TT, ok, Nat.le_add_right _ _⟩)
  obtain ⟨ts, et, SL⟩ : ∃ ts, t = (Str.ofString "<" ++ Txt.join (Str.ofString ", ") ts) ++ Str.ofString ">" ∧ ShowsL rows nm args (l + 1) ts c d := by
    rcases S.inv with ⟨e, _⟩ | ⟨_, e, _⟩ | ⟨_, _, ts, e, e'⟩
    · exact absurd e e0
    · exact absurd e hl8
    · exact ⟨ts, e, e'⟩
  have h8 : ¬ (8 : Int) ≤ (l : Int) := fun e => hl8 (Int.ofNat_le.mp e)
  have hat := fun i v (hv : vs[i]? = some v) => ints_at hi hv
  k_steps
  with_reducible rename News _ _ _ _ => N1
  with_reducible rename Fr _ _ _ _ => F1
  with_reducible rename ∀ p ∈ news, p.1 < _ => l1
  have hSl := ShowsL.at SL
  have htx := tt_mem TT
  refine m_forT (lo := tupOf _ nn) (vs := _) (k := nn) [] [] [] (ArgsJ w rows nm old news textsA _ _ _ (l + 1) d (D.length + c) c) rfl (.tail _ (hold _ hb)) rfl rfl F1 N1 ⟨rfl, [], 0, D, c, .head _, rfl, rfl, fun p hp => .tail _ (hold p hp), fun p hp _ => .tail _ hp, tt_cons TT, ok, Nat.le_refl _, Nat.le_refl _, SL⟩ (fun _ h => nomatch h) ?_ ?_
  · intro I i v it h tk vals u news₁ hI hv hic hoff hlm hJ F2 N2 K hK
    refine hideG ?_
    intro P k9
    obtain ⟨otx, htx, _⟩ := htx
    obtain ⟨e9, ol, n2, D2, c2, hout, hol, holl, hold2, hbase2, TT2, ok2, hlen2, hc2, S2⟩ := hJ
    obtain ⟨a2, ta, ha2, e8⟩ := hat i v hv
    have e1 := List.drop_eq_getElem_cons (List.getElem?_eq_some_iff.mp ha2).1
    rw [(List.getElem?_eq_some_iff.mp ha2).2] at e1
    rw [e1] at S2
    obtain ⟨t2, ts2, cA, cB, hts, ec, SA, SB⟩ := S2.cons_inv
    subst e9 e8
    refine k9 ?_
    clear F1 N1 hv k9 S2
    have hne := ne_new l1 htx
    have hts2 : ts2 = List.drop (i + 1) ts := by rw [← List.drop_drop, hts]; rfl
    have hts3 := List.take_succ_of_drop hts
    have hsz : (strValues ol).length ≤ 16384 := by
      have h1 := (List.getElem?_eq_some_iff.mp ha2).1
      rw [strValues, List.length_map, holl]; omega
    have hcA : cA ≤ n := by omega
    have hlo : D2.length + cA ≤ 400000 := by omega
    k_steps
    unfold Hold
    k_dflt (refine' Mine.LevelOk.use ?H ?S ?hki ?hli ?hc ?ok ?len ?B ?F ?X ?N ?T ?hk ?hold ?TT ?d ?u ?_; (case H => assumption); (case S => assumption); (case hki => rfl); (case hli => (first | rfl | omega)); (case B => k_asm); (case F => k_asm); (case X => k_asm); (case N => k_asm); (case T => k_asm); (case TT => walk_at "m_tt"); (case hold => walk_at "m_sub"); (case ok => assumption); (case hc => omega); (case len => omega); (case hk => first | exact rfl | assumption); (case d => ktr_room); (case u => ktr_units))
    intro tk9 hA tkA newsA DA FA NA sA holdA TA okA lenA
    try k_fold
    k_steps
    unfold Hold
    k_dflt (refine' Mine.m_append ?k1 ?k2 ?k3 ?k4 ?_; (case k1 => k_asm); (case k2 => k_asm); (case k3 => k_mem); (case k4 => first | assumption | (simp only [List.length_append, List.length_cons, List.length_nil]; omega)); k_whole)
    intro hB newsB FB NB memB sB
    k_steps
    have hIt : I ≠ textsA := fun e => absurd (hI _ (.tail _ htx)) (by rw [e]; exact Nat.lt_irrefl _)
    have hIl := Nat.ne_of_gt (hI _ (.head _))
    have hol9 := fun p (hp : p ∈ old) => Nat.ne_of_lt (l1 p (hold p hp))
    have hnl9 := fun p (hp : p ∈ news) => Nat.ne_of_lt (l1 p hp)
    have houtA := sA _ (.tail _ hout) hne
    have hIA := sA _ (.head _) hIt
    have TB : TupTab (intKind PG w) PyData.int newsB textsA DA := tt_change NA TA houtA rfl sB
    refine hK .next _ (MEnd.intro [] FB NB (sB _ hIA hIl) (fun p hp => by rw [List.mem_singleton.mp hp]; exact sB _ (holdA _ hb) (hol9 _ hb)) (fun z h1 h2 => (if_neg h1).trans rfl) ?_)
    exact ⟨rfl, ol ++ [(_, tk9)], n2 + 1, DA, cB, mem_offI.mpr ⟨by rw [strValues, List.map_append]; exact memB, fun e => hIl e.symm⟩, by rw [List.map_append, hol, List.map_cons, List.map_nil, hts3], by simp [holl], fun p hp => mem_offI.mpr ⟨sB _ (holdA p hp) (hol9 p hp), hoff p (hold2 p hp)⟩,
      fun p hp h9 => mem_offI.mpr ⟨sB _ (sA p (.tail _ (hbase2 p hp h9)) h9) (hnl9 p hp), hoff p (hbase2 p hp h9)⟩, tt_off NB TB (sB _ hIA hIl) hic (by decide) (by decide), okA, by omega, by omega, hts2 ▸ SB⟩
  · intro vals u news₁ h tk hJ hlm F2 N2
    refine hideG ?_
    intro P k9
    obtain ⟨e9, ol, n2, D2, c2, hout, hol, holl, hold2, hbase2, TT2, ok2, hlen2, hc2, S2⟩ := hJ
    subst e9
    refine k9 ?_
    clear F1 N1 k9
    rw [List.take_of_length_le (by omega)] at hol
    obtain ⟨hj2, hj3⟩ := ShowsL.join hnl SL (by omega)
    have hj4 := l_lt
    have hj5 := l_gt
    k_steps
    all_goals (exact ret _ _ _ _ (by assumption) (by assumption) ⟨⟨_, by rw [et]⟩, hbase2, hold2, D2, TT2, ok2, by omega⟩)
end Mine

end
theorem Mine.top_offN2 : True := by w_top off; trivial
theorem Mine.turnN2 {M : Model} {A : Around} {env : Env} {Q : Flow → Shared → Prop} {E : Value → Shared → Prop} {s : Shared} (h : Q .next s) : wpAny M A (execs [] env) Q E s := by walk1; exact h
section
-- M0_mac
local macro_rules | `(tactic| walk_at "compareOp In int ref") => `(tactic| (k_here; k_dflt (first
  | (refine' Mine.m_in_some rfl ?k1 ?k2 ?_; (case k1 => k_tabat); (case k2 => with_reducible assumption); k_whole)
  | (refine' Mine.m_in_none rfl ?k1 ?k2 ?_; (case k1 => k_tabat); (case k2 => with_reducible assumption); k_whole))))
local macro_rules | `(tactic| walk_at "call builtin:len") => `(tactic| (k_here; (with_reducible show wpAny _ _ (call (Value.builtin "len") [Value.ref _]) _ _ _); k_dflt (first
  | (refine' Mine.m_lenL ?k1 ?k2 ?k3 ?_; (case k1 => k_asm); (case k2 => ktr_member); (case k3 => (first | omega | decide)); k_whole)
  | (refine' Mine.m_lenT ?k1 ?k2 ?k3 ?_; (case k1 => k_asm); (case k2 => ktr_member); (case k3 => (first | omega | decide)); k_whole))))
local macro_rules | `(tactic| walk_at "subscriptTail") => `(tactic| (k_here; (with_reducible show wpAny _ _ (subscriptTail _ _ (Value.ref _) (Value.int _ _)) _ _ _); (with_unfolding_all refine' Mine.m_itemL ?k1 ?k2 ?k3 ?k4 ?k5 ?_ ?k7; (case k1 => k_asm); (case k2 => k_mem); (case k3 => k_dflt assumption); (case k4 => omega); (case k5 => omega); (case k7 => with_unfolding_all rfl); k_whole)))
local macro_rules | `(tactic| k_mem) => `(tactic| first | (with_reducible exact Mine.mem_head) | ktr_member | (with_reducible refine Mine.mem_tail ?_; k_mem) | (solve_by_elim (maxDepth := 7) (transparency := .reducible) [Mine.mem_tail, Mine.mem_head, Mine.ne_new]))
local macro_rules | `(tactic| walk_at "MPost") => `(tactic| (dsimp only [Mine.MPost]))

-- A2_name
namespace Mine
open PySem.Spec PyProof.V
set_option maxHeartbeats 8000000 in
theorem c_name (w : World) {namesA : Addr} {nm : Nat → Option Str} {tid : Nat} {tk : Tok} (ht : tid < 100000) :
    Ctl w (.ref 250) [.int tid tk, .ref namesA] 5 50 (fun news => NamesAt w news namesA nm) (fun news r news' => ∃ t, r = .str (nameText nm tid) t ∧ ∀ p ∈ news, p ∈ news') := by
  unfold Ctl
  k_fill
  intro dp un gd cn cs a ccd cl outer A₀ base h₀ L m news s mean mg mb Q E B F X N T hk hpre hroom hunits ret
  obtain ⟨lo, o, kvs, D, hmem, hdict, hflat, hlook⟩ := hpre
  have hl := hlook tid
  refine wpAny_call ?_
  k_dflt ktr_enter
  cases hn : nm tid
  all_goals rw [hn] at hl
  all_goals simp only [Option.map_some, Option.map_none] at hl
  all_goals k_steps
  all_goals (exact ret _ _ _ _ (by assumption) (by assumption) ⟨_, by (simp only [nameText, numText, hn, Option.getD_some, Option.getD_none]; rfl), fun _ h => h⟩)
end Mine

-- A1_row
namespace Mine
set_option maxHeartbeats 8000000 in
theorem c_row (w : World) {kt rowsA idxA depA weiA opnA : Addr} {vs : List Value} {nn : Nat} {k : Nat} {tk : Tok} {v : Value} (hv : vs[k]? = some v) (hs : vs.length < 1000) :
    Ctl w (.ref 69) [.ref kt, .int k tk] 5 50 (fun news => KtAt news kt rowsA idxA depA weiA opnA ∧ (rowsA, W.listOf vs.toArray nn) ∈ news) (fun news r news' => r = v ∧ ∀ p ∈ news, p ∈ news') := by
  unfold Ctl
  k_fill
  intro dp un gd cn cs a ccd cl outer A₀ base h₀ L m news s mean mg mb Q E B F X N T hk hpre hroom hunits ret
  obtain ⟨⟨dx, h1, h2, h3, h4, h5, t1, t2, t3, t4, t5, n, hkt, hdx⟩, hrows⟩ := hpre
  have hlt := (List.getElem?_eq_some_iff.mp hv).1
  refine wpAny_call ?_
  k_dflt ktr_enter
  k_steps
  all_goals (exact ret _ _ _ _ (by assumption) (by assumption) ⟨rfl, fun _ h => h⟩)
end Mine

end
theorem Mine.top_offN2b : True := by w_top off; trivial
theorem Mine.turnN2b {M : Model} {A : Around} {env : Env} {Q : Flow → Shared → Prop} {E : Value → Shared → Prop} {s : Shared} (h : Q .next s) : wpAny M A (execs [] env) Q E s := by walk1; exact h
section
-- A7_core
namespace Mine
open PySem.Spec PyProof.V PySem.Calls
set_option maxHeartbeats 8000000 in
theorem c_core2 {w : World} {kt namesA textsA ra : Addr} {k l x sx rn : Nat} {tk tl t1 t2 : Tok} (hs : isBase sx k x) :
    Ctl w (.ref 243) [.ref kt, .int k tk, .ref ra, .ref namesA, .int l tl, .ref textsA] 3 60 (fun news => (ra, tupOf [.int (sx : Int) t1, .int (x : Int) t2] rn) ∈ news) (fun news r news' => ∃ t, r = .str (baseText sx k x) t ∧ ∀ p ∈ news, p ∈ news') := by
  unfold Ctl
  k_fill
  intro dp un gd cn cs a ccd cl outer A₀ base h₀ L m news s mean mg mb Q E B F X N T hk hra hroom hunits ret
  refine wpAny_call ?_
  k_dflt ktr_enter
  with_reducible rename Fr _ _ _ _ => F1
  replace F1 := fr_of (fun y => List.lookup y [(Str.ofString "texts", Value.ref textsA), (Str.ofString "level", Value.int l tl), (Str.ofString "names", Value.ref namesA), (Str.ofString "row", Value.ref ra), (Str.ofString "k", Value.int k tk), (Str.ofString "kt", Value.ref kt)]) F1 (by with_unfolding_all rfl)
  rcases hs with ⟨e, hk⟩ | ⟨e, hx⟩ | ⟨e, hx⟩
  all_goals
    subst e
    k_steps
    all_goals (exact ret _ _ _ _ (by assumption) (by assumption) ⟨_, rfl, fun _ h => h⟩)
end Mine
namespace Mine
open PySem.Spec PyProof.V PySem.Calls
section
variable {prog : Program} {w : World} {A : Around} {E : Value → Shared → Prop} {s : Shared} {h₀ : Heap} {L a : Addr} {news : List (Addr × Obj)}
theorem m_itemTup {value slice : PySem.Expr} {vs : List Value} {n : Nat} {k : Int} {u : Tok} {x : Value} {Q : Value → Shared → Prop} (N : News h₀ L s.heap news) (hm : (a, tupOf vs n) ∈ news) (hx : vs[k.toNat]? = some x) (h0 : 0 ≤ k) (hfit : k < 2 ^ 63) (h : Q x s)
    (hs : subscripted slice false (.ref a) (.int k u) = operate [.ref a, .int k u] (getItem (.ref a) (.int k u)) := by with_unfolding_all rfl) :
    wpAny (model prog w) A (subscriptTail value slice (.ref a) (.int k u)) Q E s :=
  have hl : IsTup s.heap a vs.toArray := ⟨_, (N _ hm).1, rfl, n, rfl⟩
  have hn : k < ((vs.toArray.size : Nat) : Int) := by
    have := (List.getElem?_eq_some_iff.mp hx).1
    rw [List.size_toArray]; omega
  tail_any hl.typeIs slot_tuple_getitem.lookup (getItem_tuple hl (by omega) hfit (seqIndex_of h0 hn) (by simpa using hx) h) hs
theorem m_itemAt {value slice : PySem.Expr} {its : Array Value} {k : Int} {u : Tok} {x : Value} {Q : Value → Shared → Prop} (hl : IsTup s.heap a its) (hx : its[k.toNat]? = some x) (h0 : 0 ≤ k) (hfit : k < 2 ^ 63) (h : Q x s)
    (hs : subscripted slice false (.ref a) (.int k u) = operate [.ref a, .int k u] (getItem (.ref a) (.int k u)) := by with_unfolding_all rfl) :
    wpAny (model prog w) A (subscriptTail value slice (.ref a) (.int k u)) Q E s :=
  have hn : k < ((its.size : Nat) : Int) := by
    have := (Array.getElem?_eq_some_iff.mp hx).1
    omega
  tail_any hl.typeIs slot_tuple_getitem.lookup (getItem_tuple hl (by omega) hfit (seqIndex_of h0 hn) hx h) hs
end
set_option maxHeartbeats 8000000 in
theorem c_core3 {w : World} {rows : List TRow} {nm : Nat → Option Str} {old : List (Addr × Obj)} {kt namesA textsA ra rb : Addr} {n : Nat} (H : LevelOk w rows nm old kt namesA textsA n) (hnm : NamesAt w old namesA nm) (hnl : ∀ n t, nm n = some t → t.length ≤ 10)
    {k l c d sx tid rn rn' : Nat} {args : List Nat} {avs : List Value} {t : Str} {t1 t2 : Tok} (I : Inv3 rows nm sx tid args l t c d) (hra : (ra, tupOf [.int (sx : Int) t1, .int (tid : Int) t2, .ref rb] rn) ∈ old) (hrb : (rb, tupOf avs rn') ∈ old) (hints : IntsAre avs (zs args)) (hvs : avs.length ≤ 16384)
    (hc : c ≤ n + 1) {D : List (PyData × PyData)} (ok : TextsOk rows nm D) (hlen : D.length + c ≤ 400000) {tk tl : Tok} :
    Ctl w (.ref 243) [.ref kt, .int k tk, .ref ra, .ref namesA, .int l tl, .ref textsA] (4 * d + 8) (80 * d + 200) (LPre w old textsA D) (LPost w rows nm old textsA D (c - 1) t) := by
  obtain ⟨hs, hx, tA, c0, d0, ec, ed, et, SA⟩ := I
  subst ec ed et
  have hlA := ShowsA.len hnl SA
  have hlN := nameText_len hnl hx
  have hT : (nameText nm tid).length + tA.length ≤ 16777216 := by omega
  have hcn : c0 ≤ n := Nat.le_of_succ_le_succ hc
  have hlen0 : D.length + c0 ≤ 400000 := Nat.le_trans (Nat.add_le_add_left (Nat.le_succ c0) _) hlen
  clear hlA hlN hc hlen
  unfold Ctl
  k_fill
  intro dp un gd cn cs a ccd cl outer A₀ base h₀ L m news s mean mg mb Q E B F X N T hk hpre hroom hunits ret
  have hold := hpre.1
  have TT := hpre.2
  have hra9 := hold _ hra
  have hd1 : dp + 1 + (4 * d0 + 11) < recursionLimit := by omega
  have hu1 : un + 3 + (80 * d0 + 260) < cLine := by omega
  clear hpre
  refine wpAny_call ?_
  k_dflt ktr_enter
  with_reducible rename Fr _ _ _ _ => F1
  replace F1 := fr_of (fun y => List.lookup y [(Str.ofString "texts", Value.ref textsA), (Str.ofString "level", Value.int l tl), (Str.ofString "names", Value.ref namesA), (Str.ofString "row", Value.ref ra), (Str.ofString "k", Value.int k tk), (Str.ofString "kt", Value.ref kt)]) F1 (by with_unfolding_all rfl)
  rcases hs with e | e
  all_goals
    subst e
    k_steps
    unfold Hold
    k_dflt (refine' Ctl.u1 (c_name w (nm := nm) (tid := tid) (by omega)) ?B ?F ?X ?N ?T ?hk ?hp ?d ?u ?_; walk_at "m_ctl"; (case hp => exact hnm.mono hold))
    intro tn h9 tk9 news9 F9 N9 s9
    k_steps
    unfold Hold
    k_dflt (refine' Ctl.uL (c_args H hnl SA hcn hrb hints hvs ok hlen0) ?B ?F ?X ?N ?T ?hk ?hold ?TT hd1 hu1 ?_; (case B => k_asm); (case F => k_asm); (case X => k_asm); (case N => k_asm); (case T => k_asm); (case hk => exact rfl); (case hold => exact fun p hp => s9 p (hold p hp)); (case TT => exact tt_mono TT s9))
    intro ts h10 tk10 news10 D10 F10 N10 s10 hold10 T10 ok10 len10
    k_steps
    all_goals exact ret _ _ _ _ (by assumption) (by assumption) (LPost.mk rfl (fun p hp hn => s10 p (s9 p hp) hn) hold10 T10 ok10 len10)
end Mine
namespace Mine
open PySem.Spec PyProof.V PySem.Calls
set_option maxHeartbeats 8000000 in
theorem c_core4 {w : World} {rows : List TRow} {nm : Nat → Option Str} {old : List (Addr × Obj)} {kt namesA textsA ra rb : Addr} {n : Nat} (H : LevelOk w rows nm old kt namesA textsA n) (hnl : ∀ n t, nm n = some t → t.length ≤ 10)
    {k l c d o mid rn rn' : Nat} {args : List Nat} {avs : List Value} {t : Str} {t0 t1 t2 : Tok} (I : Inv4 rows nm o mid args l t c d) (hra : (ra, tupOf [.int 10 t0, .int (o : Int) t1, .int (mid : Int) t2, .ref rb] rn) ∈ old) (hrb : (rb, tupOf avs rn') ∈ old) (hints : IntsAre avs (zs args)) (hvs : avs.length ≤ 16384)
    (hc : c ≤ n + 1) {D : List (PyData × PyData)} (ok : TextsOk rows nm D) (hlen : D.length + c ≤ 400000) {tk tl : Tok} :
    Ctl w (.ref 243) [.ref kt, .int k tk, .ref ra, .ref namesA, .int l tl, .ref textsA] (4 * d + 8) (80 * d + 200) (LPre w old textsA D) (LPost w rows nm old textsA D (c - 1) t) := by
  obtain ⟨hx, tO, tA, c1, c2, d0, ec, ed, et, SO, SA⟩ := I
  subst ec ed et
  have hlO := Shows.len hnl SO
  have hlA := ShowsA.len hnl SA
  have hlM := numText_len hx
  have hl2 := l_meth
  have hl3 := l_col
  have hT1 : (Str.ofString "method ").length + tO.length ≤ 16777216 := by omega
  have hT2 : (Str.ofString "method " ++ tO).length + (Str.ofString "::").length ≤ 16777216 := by rw [len_app]; omega
  have hT3 : ((Str.ofString "method " ++ tO) ++ Str.ofString "::").length + (numText mid).length ≤ 16777216 := by rw [len_app, len_app]; omega
  have hT4 : (((Str.ofString "method " ++ tO) ++ Str.ofString "::") ++ numText mid).length + tA.length ≤ 16777216 := by rw [len_app, len_app, len_app]; omega
  have hc1 : c1 ≤ n := Nat.le_trans (Nat.le_add_right c1 c2) (Nat.le_of_succ_le_succ hc)
  have hc2 : c2 ≤ n := Nat.le_trans (Nat.le_add_left c2 c1) (Nat.le_of_succ_le_succ hc)
  have hlen1 : D.length + c1 ≤ 400000 := by omega
  clear hlA hlO hlM hc hl2 hl3
  unfold Ctl
  k_fill
  intro dp un gd cn cs a ccd cl outer A₀ base h₀ L m news s mean mg mb Q E B F X N T hk hpre hroom hunits ret
  have hold := hpre.1
  have TT := hpre.2
  have hra9 := hold _ hra
  have hd1 : dp + 1 + (4 * d0 + 10) < recursionLimit := by omega
  have hu1 : un + 3 + (80 * d0 + 240) < cLine := by omega
  have hd2 : dp + 1 + (4 * d0 + 11) < recursionLimit := by omega
  have hu2 : un + 3 + (80 * d0 + 260) < cLine := by omega
  clear hpre
  refine wpAny_call ?_
  k_dflt ktr_enter
  with_reducible rename Fr _ _ _ _ => F1
  replace F1 := fr_of (fun y => List.lookup y [(Str.ofString "texts", Value.ref textsA), (Str.ofString "level", Value.int l tl), (Str.ofString "names", Value.ref namesA), (Str.ofString "row", Value.ref ra), (Str.ofString "k", Value.int k tk), (Str.ofString "kt", Value.ref kt)]) F1 (by with_unfolding_all rfl)
  k_steps
  unfold Hold
  k_dflt (refine' Ctl.uL (H _ _ _ _ _ D _ _ _ _ hc1 SO rfl rfl ok hlen1) ?B ?F ?X ?N ?T ?hk ?hold ?TT hd1 hu1 ?_; (case B => k_asm); (case F => k_asm); (case X => k_asm); (case N => k_asm); (case T => k_asm); (case hk => exact rfl); (case hold => exact hold); (case TT => exact TT))
  intro ts h9 tk9 news9 D9 F9 N9 s9 hold9 T9 ok9 len9
  have hra8 := hold9 _ hra
  have hlen2 : D9.length + c2 ≤ 400000 := by omega
  k_steps
  unfold Hold
  k_dflt (refine' Ctl.uL (c_args H hnl SA hc2 hrb hints hvs ok9 hlen2) ?B ?F ?X ?N ?T ?hk ?hold ?TT hd2 hu2 ?_; (case B => k_asm); (case F => k_asm); (case X => k_asm); (case N => k_asm); (case T => k_asm); (case hk => exact rfl); (case hold => exact hold9); (case TT => exact T9))
  intro tr h10 tk10 news10 D10 F10 N10 s10 hold10 T10 ok10 len10
  k_steps
  all_goals exact ret _ _ _ _ (by assumption) (by assumption) (LPost.mk rfl (fun p hp hn => s10 p (s9 p hp hn) hn) hold10 T10 ok10 (by omega))
end Mine

end
theorem Mine.top_offN3 : True := by w_top off; trivial
theorem Mine.turnN3 {M : Model} {A : Around} {env : Env} {Q : Flow → Shared → Prop} {E : Value → Shared → Prop} {s : Shared} (h : Q .next s) : wpAny M A (execs [] env) Q E s := by walk1; exact h
section
-- T0_test
namespace Mine
open PySem.Spec PyProof.V PySem.Calls
noncomputable def intOf : Value → Option Int
  | .int k _ => some k
  | _ => none
theorem intOf_some {v : Value} {k : Int} (h : intOf v = some k) : ∃ t, v = .int k t := by
  cases v <;> cases h; exact ⟨_, rfl⟩
/-- the int that a name stands for -/
noncomputable def iv (nl : List (Str × NameKind)) (m : Str → Option Value) (g : Str → Option (Option Value)) (x : Str) : Option Int :=
  if (x == ("__debug__" : Str)) = true then none else
  if nl.lookup x = some .local then (m x).bind intOf else
  if nl.lookup x = some .globalImplicit then (g x).bind fun o => o.bind intOf else none
/-- the int at a place of a known tuple -/
noncomputable def iT (nl : List (Str × NameKind)) (x₀ : Str) (vs : List Value) (x : Str) (i : Nat) : Option Int :=
  if x = x₀ then if (x == ("__debug__" : Str)) = true then none else if nl.lookup x = some .local then if Nat.ble i 100 = true then (vs[i]?).bind intOf else none else none else none
noncomputable def cmpI (op : CmpOp) (a b : Int) : Option Bool :=
  match op with
  | .Eq => some (a == b)
  | .NotEq => some (a != b)
  | .Lt => some (decide (a < b))
  | .LtE => some (decide (a ≤ b))
  | .Gt => some (decide (b < a))
  | .GtE => some (decide (b ≤ a))
  | _ => none
noncomputable def cmpO (op : CmpOp) (a b : Option Int) : Option Bool := a.bind fun a => b.bind fun b => cmpI op a b
theorem cmpO_some {op : CmpOp} {a b : Option Int} {t : Bool} (h : cmpO op a b = some t) : ∃ x y, a = some x ∧ b = some y ∧ cmpI op x y = some t := by
  cases a with
  | none => cases h
  | some x => cases b with
    | none => cases h
    | some y => exact ⟨x, y, rfl, rfl, h⟩
/-- the tests of names of ints (z: no token is drawn) -/
inductive Tst (nl : List (Str × NameKind)) (m : Str → Option Value) (g : Str → Option (Option Value)) (x₀ : Str) (vs : List Value) (z : Bool) : PySem.Expr → Bool → Prop
  | nn {op x p y q r t} (e : cmpO op (iv nl m g x) (iv nl m g y) = some t) : Tst nl m g x₀ vs z (.Compare (.Name x p) [op] [.Name y q] r) t
  | nc {op x p k j q r t} (hz : z = false) (e : cmpO op (iv nl m g x) (some k) = some t) : Tst nl m g x₀ vs z (.Compare (.Name x p) [op] [.Constant (.int k) j q] r) t
  | sn {op x p i j q r y u v t} (hz : z = false) (e : cmpO op (iT nl x₀ vs x i) (iv nl m g y) = some t) : Tst nl m g x₀ vs z (.Compare (.Subscript (.Name x p) (.Constant (.int i) j q) r) [op] [.Name y u] v) t
  | sc {op x p i j q r k j' u v t} (hz : z = false) (e : cmpO op (iT nl x₀ vs x i) (some k) = some t) : Tst nl m g x₀ vs z (.Compare (.Subscript (.Name x p) (.Constant (.int i) j q) r) [op] [.Constant (.int k) j' u] v) t
  | or0 {p} : Tst nl m g x₀ vs z (.BoolOp .Or [] p) false
  | orF {e r p b} (h : Tst nl m g x₀ vs z e false) (h' : Tst nl m g x₀ vs z (.BoolOp .Or r p) b) : Tst nl m g x₀ vs z (.BoolOp .Or (e :: r) p) b
  | orT {e r p} (h : Tst nl m g x₀ vs z e true) : Tst nl m g x₀ vs z (.BoolOp .Or (e :: r) p) true
  | and0 {p} : Tst nl m g x₀ vs z (.BoolOp .And [] p) true
  | andT {e r p b} (h : Tst nl m g x₀ vs z e true) (h' : Tst nl m g x₀ vs z (.BoolOp .And r p) b) : Tst nl m g x₀ vs z (.BoolOp .And (e :: r) p) b
  | andF {e r p} (h : Tst nl m g x₀ vs z e false) : Tst nl m g x₀ vs z (.BoolOp .And (e :: r) p) false
  | not {e p b} (h : Tst nl m g x₀ vs z e b) : Tst nl m g x₀ vs z (.UnaryOp .Not e p) (!b)

section
variable {prog : Program} {w : World} {A : Around} {E : Value → Shared → Prop} {s : Shared} {K : Frag} {h₀ : Heap} {L a : Addr} {m mg mb : Str → Option Value} {cn : Str} {cs : Scope} {ccd : Value} {cl : List (Str × Addr)} {p : Program} {loose : List Str}
  {x₀ : Str} {vs : List Value} {z : Bool}
abbrev gOf (K : Frag) (x : Str) : Option (Option Value) := nsIn K mainGlobals x

theorem cmp_ok {op : CmpOp} {x y : Int} {t u : Tok} {b : Bool} {Q : Value → Shared → Prop} (e : cmpI op x y = some b) (h : Q (.bool b) s) : wpAny (model prog w) A (compareOp op (.int x t) (.int y u)) Q E s := by
  cases op
  case Eq => exact PySem.P.eq_int (Option.some.inj e ▸ h)
  case NotEq => exact PySem.P.ne_int (Option.some.inj e ▸ h)
  case Lt => exact PySem.P.lt_int (Option.some.inj e ▸ h)
  case LtE => exact PySem.P.le_int (Option.some.inj e ▸ h)
  case Gt => exact PySem.P.gt_int (Option.some.inj e ▸ h)
  case GtE => exact PySem.P.ge_int (Option.some.inj e ▸ h)
  all_goals cases e

theorem iv_ok (F : Fr h₀ L s.heap m) (X : K.In h₀) (T : TopRead p loose mg mb h₀) (hk : cs.kind = .function) {x : Str} {pos : Pos} {k : Int} {Q : Value → Shared → Prop} (he : iv cs.names m (gOf K) x = some k)
    (h : ∀ t, Q (.int k t) s) : wpAny (model prog w) A (eval (.Name x pos) (envX cn cs L a ccd cl)) Q E s := by
  unfold iv at he
  by_cases hd : (x == ("__debug__" : Str)) = true
  · rw [if_pos hd] at he; cases he
  rw [if_neg hd] at he
  have hd' : (x == ("__debug__" : Str)) = false := by simpa using hd
  by_cases hl : cs.names.lookup x = some .local
  · rw [if_pos hl] at he
    obtain ⟨v, hm, hv⟩ := Option.bind_eq_some_iff.mp he
    obtain ⟨t, e⟩ := intOf_some hv
    exact nameX_L F hm (e ▸ h t) hk hl hd'
  rw [if_neg hl] at he
  by_cases hg : cs.names.lookup x = some .globalImplicit
  · rw [if_pos hg] at he
    obtain ⟨o, hm, ho⟩ := Option.bind_eq_some_iff.mp he
    obtain ⟨v, e, hv⟩ := Option.bind_eq_some_iff.mp ho
    obtain ⟨t, e'⟩ := intOf_some hv
    rw [e] at hm
    exact nameX_K F X T hm (e' ▸ h t) hk hg hd'
  · rw [if_neg hg] at he; cases he
theorem iT_ok (F : Fr h₀ L s.heap m) (ht : vs ≠ [] → ∃ b : Addr, m x₀ = some (.ref b) ∧ IsTup s.heap b vs.toArray) (hk : cs.kind = .function) {x : Str} {i : Nat} {q r pos : Pos} {j} {k : Int} {Q : Value → Shared → Prop} (he : iT cs.names x₀ vs x i = some k)
    (h : ∀ t, Q (.int k t) { s with toks := s.toks + 1 }) : wpAny (model prog w) A (eval (.Subscript (.Name x pos) (.Constant (.int i) j q) r) (envX cn cs L a ccd cl)) Q E s := by
  unfold iT at he
  by_cases hx : x = x₀
  · rw [if_pos hx] at he
    subst hx
    by_cases hd : (x == ("__debug__" : Str)) = true
    · rw [if_pos hd] at he; cases he
    rw [if_neg hd] at he
    have hd' : (x == ("__debug__" : Str)) = false := by simpa using hd
    by_cases hl : cs.names.lookup x = some .local
    · rw [if_pos hl] at he
      by_cases hi : Nat.ble i 100 = true
      · rw [if_pos hi] at he
        obtain ⟨v, hv, hvk⟩ := Option.bind_eq_some_iff.mp he
        obtain ⟨t, e⟩ := intOf_some hvk
        subst e
        obtain ⟨b, hm, hT⟩ := ht (fun e => by rw [e] at hv; cases hv)
        refine Subscript_ (nameX_L F hm (wpAny_Constant_int ?_) hk hl hd')
        exact m_itemAt hT ((List.getElem?_toArray (xs := vs) (i := i)).trans hv) (Int.natCast_nonneg _) (n63' (Nat.le_of_ble_eq_true hi) rfl) (h t)
      · rw [if_neg hi] at he; cases he
    · rw [if_neg hl] at he; cases he
  · rw [if_neg hx] at he; cases he

theorem cmpI_marks {op : CmpOp} {x y : Int} {b : Bool} (e : cmpI op x y = some b) : (op == .In || op == .NotIn) = false := by
  cases op <;> first | rfl | cases e
theorem marks_no {op : CmpOp} (h : (op == .In || op == .NotIn) = false) {r : PySem.Expr} : behindInMarks op r = false := by
  unfold behindInMarks
  cases r
  case Set => simp only [h, Bool.and_false, Bool.false_and]
  all_goals rfl

theorem tst_ok (F : Fr h₀ L s.heap m) (X : K.In h₀) (T : TopRead p loose mg mb h₀) (ht : vs ≠ [] → ∃ b : Addr, m x₀ = some (.ref b) ∧ IsTup s.heap b vs.toArray) (hk : cs.kind = .function) {e : PySem.Expr} {b : Bool} (he : Tst cs.names m (gOf K) x₀ vs z e b) :
    ∀ {k : Nat} {Q : Bool → Shared → Prop} {whole : Sem Value}, (∀ j, (z = true → j = k) → Q b { s with toks := j }) → wpAny (model prog w) A (PySem.isTrue e (envX cn cs L a ccd cl) whole) Q E { s with toks := k } := by
  induction he with
  | nn e =>
    intro k Q whole h
    obtain ⟨x, y, h1, h2, h3⟩ := cmpO_some e
    exact wpAny_isTrue_Compare1 (iv_ok (s := { s with toks := k }) F X T hk h1 fun _ => iv_ok (s := { s with toks := k }) F X T hk h2 fun _ => cmp_ok h3 (wpAny_truthy_bool (h k fun _ => rfl))) (marks_no (cmpI_marks h3))
  | nc hz e =>
    intro k Q whole h
    obtain ⟨x, y, h1, h2, h3⟩ := cmpO_some e
    cases h2
    exact wpAny_isTrue_Compare1 (iv_ok (s := { s with toks := k }) F X T hk h1 fun _ => wpAny_Constant_int (cmp_ok h3 (wpAny_truthy_bool (h (k + 1) fun q => by rw [hz] at q; cases q)))) (marks_no (cmpI_marks h3))
  | sn hz e =>
    intro k Q whole h
    obtain ⟨x, y, h1, h2, h3⟩ := cmpO_some e
    exact wpAny_isTrue_Compare1 (iT_ok (s := { s with toks := k }) F ht hk h1 fun _ => iv_ok (s := { s with toks := k + 1 }) F X T hk h2 fun _ => cmp_ok h3 (wpAny_truthy_bool (h (k + 1) fun q => by rw [hz] at q; cases q))) (marks_no (cmpI_marks h3))
  | sc hz e =>
    intro k Q whole h
    obtain ⟨x, y, h1, h2, h3⟩ := cmpO_some e
    cases h2
    exact wpAny_isTrue_Compare1 (iT_ok (s := { s with toks := k }) F ht hk h1 fun _ => wpAny_Constant_int (cmp_ok h3 (wpAny_truthy_bool (h (k + 1 + 1) fun q => by rw [hz] at q; cases q)))) (marks_no (cmpI_marks h3))
  | or0 => intro k Q whole h; exact isTrue_or_nil (h k fun _ => rfl)
  | orF _ _ ih ih' => intro k Q whole h; exact isTrue_or (ih fun j hj => ih' fun j' hj' => h j' fun q => (hj' q).trans (hj q))
  | orT _ ih => intro k Q whole h; exact isTrue_or (ih fun j hj => h j hj)
  | and0 => intro k Q whole h; exact isTrue_and_nil (h k fun _ => rfl)
  | andT _ _ ih ih' => intro k Q whole h; exact isTrue_and (ih fun j hj => ih' fun j' hj' => h j' fun q => (hj' q).trans (hj q))
  | andF _ ih => intro k Q whole h; exact isTrue_and (ih fun j hj => h j hj)
  | not _ ih => intro k Q whole h; exact isTrue_not (ih fun j hj => h j hj)
/-- the tests of if statements -/
theorem m_ifc {b : Bool} (ht : vs ≠ [] → ∃ b : Addr, m x₀ = some (.ref b) ∧ IsTup s.heap b vs.toArray) (F : Fr h₀ L s.heap m) (X : K.In h₀) (T : TopRead p loose mg mb h₀) (hk : cs.kind = .function) {test : PySem.Expr} {body orelse rest : List Stmt} {pos : Pos} {Q : Flow → Shared → Prop} (he : Tst cs.names m (gOf K) x₀ vs z test b)
    (h : ∀ k : Nat, (z = true → k = s.toks) → wpAny (model prog w) A (execs (if b = true then body else orelse) (envX cn cs L a ccd cl)) (fun f s' => match f with | .next => wpAny (model prog w) A (execs rest (envX cn cs L a ccd cl)) Q E s' | f => Q f s') E { s with toks := k }) :
    wpAny (model prog w) A (execs (.If test body orelse pos :: rest) (envX cn cs L a ccd cl)) Q E s := by
  refine wpAny_execs_cons (wpAny_If (tst_ok (s := s) (k := s.toks) F X T ht hk he fun j hj => ?_))
  cases b <;> exact h j hj
theorem m_if {b : Bool} (F : Fr h₀ L s.heap m) (X : K.In h₀) (T : TopRead p loose mg mb h₀) (hk : cs.kind = .function) {test : PySem.Expr} {body orelse rest : List Stmt} {pos : Pos} {Q : Flow → Shared → Prop} (he : Tst cs.names m (gOf K) Str.empty [] true test b)
    (h : wpAny (model prog w) A (execs (if b = true then body else orelse) (envX cn cs L a ccd cl)) (fun f s' => match f with | .next => wpAny (model prog w) A (execs rest (envX cn cs L a ccd cl)) Q E s' | f => Q f s') E s) :
    wpAny (model prog w) A (execs (.If test body orelse pos :: rest) (envX cn cs L a ccd cl)) Q E s :=
  m_ifc (fun h => absurd rfl h) F X T hk he fun k e => by rw [e rfl]; exact h
theorem m_ifT (F : Fr h₀ L s.heap m) (X : K.In h₀) (T : TopRead p loose mg mb h₀) (hk : cs.kind = .function) {test : PySem.Expr} {body orelse rest : List Stmt} {pos : Pos} {Q : Flow → Shared → Prop} (he : Tst cs.names m (gOf K) Str.empty [] true test true)
    (h : wpAny (model prog w) A (execs body (envX cn cs L a ccd cl)) (fun f s' => match f with | .next => wpAny (model prog w) A (execs rest (envX cn cs L a ccd cl)) Q E s' | f => Q f s') E s) :
    wpAny (model prog w) A (execs (.If test body orelse pos :: rest) (envX cn cs L a ccd cl)) Q E s := m_if F X T hk he h
theorem m_ifE (F : Fr h₀ L s.heap m) (X : K.In h₀) (T : TopRead p loose mg mb h₀) (hk : cs.kind = .function) {test : PySem.Expr} {body orelse rest : List Stmt} {pos : Pos} {Q : Flow → Shared → Prop} (he : Tst cs.names m (gOf K) Str.empty [] true test false)
    (h : wpAny (model prog w) A (execs orelse (envX cn cs L a ccd cl)) (fun f s' => match f with | .next => wpAny (model prog w) A (execs rest (envX cn cs L a ccd cl)) Q E s' | f => Q f s') E s) :
    wpAny (model prog w) A (execs (.If test body orelse pos :: rest) (envX cn cs L a ccd cl)) Q E s := m_if F X T hk he h
/-- tests that draw tokens -/
theorem m_isF {hp1 : Heap} {tk1 : Nat} {P R : Shared → Prop} {e : PySem.Expr} {whole : Sem Value} (ht : vs ≠ [] → ∃ b : Addr, m x₀ = some (.ref b) ∧ IsTup hp1 b vs.toArray) (F : Fr h₀ L hp1 m) (X : K.In h₀) (T : TopRead p loose mg mb h₀) (hk : cs.kind = .function) (he : Tst cs.names m (gOf K) x₀ vs false e false)
    (h : ∀ k : Nat, R { s with heap := hp1, toks := k }) : wpAny (model prog w) A (PySem.isTrue e (envX cn cs L a ccd cl) whole) (fun b s₂ => if b = true then P s₂ else R s₂) E { s with heap := hp1, toks := tk1 } :=
  tst_ok (s := { s with heap := hp1 }) (k := tk1) F X T ht hk he fun j _ => h j
theorem m_isT {hp1 : Heap} {tk1 : Nat} {P R : Shared → Prop} {e : PySem.Expr} {whole : Sem Value} (ht : vs ≠ [] → ∃ b : Addr, m x₀ = some (.ref b) ∧ IsTup hp1 b vs.toArray) (F : Fr h₀ L hp1 m) (X : K.In h₀) (T : TopRead p loose mg mb h₀) (hk : cs.kind = .function) (he : Tst cs.names m (gOf K) x₀ vs false e true)
    (h : ∀ k : Nat, P { s with heap := hp1, toks := k }) : wpAny (model prog w) A (PySem.isTrue e (envX cn cs L a ccd cl) whole) (fun b s₂ => if b = true then P s₂ else R s₂) E { s with heap := hp1, toks := tk1 } :=
  tst_ok (s := { s with heap := hp1 }) (k := tk1) F X T ht hk he fun j _ => h j
theorem m_is2 {hp1 : Heap} {tk1 : Nat} {P R : Shared → Prop} {e : PySem.Expr} {b : Bool} {whole : Sem Value} (ht : vs ≠ [] → ∃ b : Addr, m x₀ = some (.ref b) ∧ IsTup hp1 b vs.toArray) (F : Fr h₀ L hp1 m) (X : K.In h₀) (T : TopRead p loose mg mb h₀) (hk : cs.kind = .function) (he : Tst cs.names m (gOf K) x₀ vs false e b)
    (h1 : ∀ k : Nat, P { s with heap := hp1, toks := k }) (h2 : ∀ k : Nat, R { s with heap := hp1, toks := k }) : wpAny (model prog w) A (PySem.isTrue e (envX cn cs L a ccd cl) whole) (fun b s₂ => if b = true then P s₂ else R s₂) E { s with heap := hp1, toks := tk1 } :=
  tst_ok (s := { s with heap := hp1 }) (k := tk1) F X T ht hk he fun j _ => by cases b; exact h2 j; exact h1 j
theorem m_ifF (F : Fr h₀ L s.heap m) (X : K.In h₀) (T : TopRead p loose mg mb h₀) (hk : cs.kind = .function) {test : PySem.Expr} {body rest : List Stmt} {pos : Pos} {Q : Flow → Shared → Prop} (he : Tst cs.names m (gOf K) Str.empty [] true test false)
    (h : wpAny (model prog w) A (execs rest (envX cn cs L a ccd cl)) Q E s) : wpAny (model prog w) A (execs (.If test body [] pos :: rest) (envX cn cs L a ccd cl)) Q E s := m_if F X T hk he (wpAny_execs_nil h)
theorem m_ifR (F : Fr h₀ L s.heap m) (X : K.In h₀) (T : TopRead p loose mg mb h₀) (hk : cs.kind = .function) {test e : PySem.Expr} {orelse rest : List Stmt} {pos pos' : Pos} {Q : Flow → Shared → Prop} (he : Tst cs.names m (gOf K) Str.empty [] true test true)
    (h : wpAny (model prog w) A (eval e (envX cn cs L a ccd cl)) (fun v => Q (.ret v)) E s) : wpAny (model prog w) A (execs (.If test [.Return (some e) pos'] orelse pos :: rest) (envX cn cs L a ccd cl)) Q E s :=
  m_if F X T hk he (wpAny_execs_cons (wpAny_Return_some h))
end
end Mine
namespace Mine
section
variable {nl : List (Str × NameKind)} {m : Str → Option Value} {g : Str → Option (Option Value)} {x₀ : Str} {vs : List Value} {z : Bool}
theorem Tst.orB {e : PySem.Expr} {r p} {b b' : Bool} (h : Tst nl m g x₀ vs z e b) (h' : Tst nl m g x₀ vs z (.BoolOp .Or r p) b') : Tst nl m g x₀ vs z (.BoolOp .Or (e :: r) p) (b || b') := by
  cases b
  · exact .orF h h'
  · exact .orT h
theorem Tst.cast {e : PySem.Expr} {b b' : Bool} (h : Tst nl m g x₀ vs z e b) (q : b = b') : Tst nl m g x₀ vs z e b' := q ▸ h
theorem Tst.eq {x y p q r} {a b : Int} (e : cmpO .Eq (iv nl m g x) (iv nl m g y) = cmpI .Eq a b) : Tst nl m g x₀ vs z (.Compare (.Name x p) [.Eq] [.Name y q] r) (a == b) := .nn e
end
end Mine
namespace Mine
open PySem.Spec PyProof.V PySem.Calls
section
variable {prog : Program} {w : World} {A : Around} {E : Value → Shared → Prop} {s : Shared} {K : Frag} {h₀ : Heap} {L a : Addr} {m mg mb : Str → Option Value} {cn : Str} {cs : Scope} {ccd : Value} {cl : List (Str × Addr)} {p : Program} {loose : List Str}
theorem nn_val {x y : Str} {op : CmpOp} {px py q : Pos} {b : Bool} {Q : Value → Shared → Prop} (hk : cs.kind = .function) (F : Fr h₀ L s.heap m) (X : K.In h₀) (T : TopRead p loose mg mb h₀) (e : cmpO op (iv cs.names m (gOf K) x) (iv cs.names m (gOf K) y) = some b) (h : Q (.bool b) s) :
    wpAny (model prog w) A (eval (.Compare (.Name x px) [op] [.Name y py] q) (envX cn cs L a ccd cl)) Q E s := by
  obtain ⟨x, y, h1, h2, h3⟩ := cmpO_some e
  exact wpAny_Compare1 (iv_ok F X T hk h1 fun _ => iv_ok F X T hk h2 fun _ => cmp_ok h3 h) (marks_no (cmpI_marks h3))
theorem or_valT {x y : Str} {op : CmpOp} {px py q pos : Pos} {e₂ : PySem.Expr} {rest : List PySem.Expr} {Q : Value → Shared → Prop} (F : Fr h₀ L s.heap m) (X : K.In h₀) (T : TopRead p loose mg mb h₀) (hk : cs.kind = .function) (e : cmpO op (iv cs.names m (gOf K) x) (iv cs.names m (gOf K) y) = some true) (h : Q (.bool true) s) :
    wpAny (model prog w) A (eval (.BoolOp .Or (.Compare (.Name x px) [op] [.Name y py] q :: e₂ :: rest) pos) (envX cn cs L a ccd cl)) Q E s := BoolOp_or (nn_val hk F X T e (wpAny_truthy_bool h))
theorem or_valF {x y : Str} {op : CmpOp} {px py q pos : Pos} {e₂ : PySem.Expr} {rest : List PySem.Expr} {Q : Value → Shared → Prop} (F : Fr h₀ L s.heap m) (X : K.In h₀) (T : TopRead p loose mg mb h₀) (hk : cs.kind = .function) (e : cmpO op (iv cs.names m (gOf K) x) (iv cs.names m (gOf K) y) = some false)
    (h : wpAny (model prog w) A (eval (.BoolOp .Or (e₂ :: rest) pos) (envX cn cs L a ccd cl)) Q E s) :
    wpAny (model prog w) A (eval (.BoolOp .Or (.Compare (.Name x px) [op] [.Name y py] q :: e₂ :: rest) pos) (envX cn cs L a ccd cl)) Q E s := BoolOp_or (nn_val hk F X T e (wpAny_truthy_bool h))
theorem or_val1 {x y : Str} {op : CmpOp} {px py q pos : Pos} {b : Bool} {Q : Value → Shared → Prop} (F : Fr h₀ L s.heap m) (X : K.In h₀) (T : TopRead p loose mg mb h₀) (hk : cs.kind = .function) (e : cmpO op (iv cs.names m (gOf K) x) (iv cs.names m (gOf K) y) = some b) (h : Q (.bool b) s) :
    wpAny (model prog w) A (eval (.BoolOp .Or [.Compare (.Name x px) [op] [.Name y py] q] pos) (envX cn cs L a ccd cl)) Q E s := BoolOp_one (nn_val hk F X T e h)
end
section
variable {nl : List (Str × NameKind)} {m : Str → Option Value} {g : Str → Option (Option Value)} {x₀ : Str} {vs : List Value} {z : Bool}
theorem Tst.andB {e : PySem.Expr} {r p} {b b' : Bool} (h : Tst nl m g x₀ vs z e b) (h' : Tst nl m g x₀ vs z (.BoolOp .And r p) b') : Tst nl m g x₀ vs z (.BoolOp .And (e :: r) p) (b && b') := by
  cases b
  · exact .andF h
  · exact .andT h h'
theorem beq_no {a b : Int} (h : a ≠ b) : (a == b) = false := beq_eq_false_iff_ne.mpr h
end
end Mine

-- T1_kt
namespace Mine
open PySem.Spec PyProof.V PySem.Calls
section
variable {w : World} {A : Around} {E : Value → Shared → Prop} {s : Shared} {h₀ : Heap} {L kt a1 a2 a3 a4 a5 : Addr} {m : Str → Option Value} {news : List (Addr × Obj)}
theorem m_kt_row (hK : KtAt news kt a1 a2 a3 a4 a5) (F : Fr h₀ L s.heap m) (X : (hd.heap_1 w.params).In h₀) (N : News h₀ L s.heap news) {pl : Sem Bool} {Q : Value × List Value → Shared → Prop} (h : Q (.ref 69, [.ref kt]) s) : wpAny (model PG w) A (getMethod (.ref kt) (Str.ofString "row") pl) Q E s := by
  obtain ⟨dx, h1, h2, h3, h4, h5, t1, t2, t3, t4, t5, n, hm, hd⟩ := hK
  refine' method_inst F X (InstAt.of_news N hm hd) ?k4 ?k5 ?k6 ?k7 h; (case k4 => kernel_rfl); (case k5 => kernel_rfl); (case k6 => kernel_rfl); (case k7 => k_get)
theorem m_kt_put (hK : KtAt news kt a1 a2 a3 a4 a5) (F : Fr h₀ L s.heap m) (X : (hd.heap_1 w.params).In h₀) (N : News h₀ L s.heap news) {pl : Sem Bool} {Q : Value × List Value → Shared → Prop} (h : Q (.ref 76, [.ref kt]) s) : wpAny (model PG w) A (getMethod (.ref kt) (Str.ofString "put") pl) Q E s := by
  obtain ⟨dx, h1, h2, h3, h4, h5, t1, t2, t3, t4, t5, n, hm, hd⟩ := hK
  refine' method_inst F X (InstAt.of_news N hm hd) ?k4 ?k5 ?k6 ?k7 h; (case k4 => kernel_rfl); (case k5 => kernel_rfl); (case k6 => kernel_rfl); (case k7 => k_get)
theorem m_kt_rows {hp1 : Heap} {tk1 : Nat} (hK : KtAt news kt a1 a2 a3 a4 a5) (F : Fr h₀ L hp1 m) (X : (hd.heap_1 w.params).In h₀) (N : News h₀ L hp1 news) {ex : Bool} {Q : Value → Shared → Prop} (h : Q (.ref a1) { s with heap := hp1, toks := tk1 + 1 }) : wpAny (model PG w) A (getAttr (.ref kt) (Str.ofString "rows") ex) Q E { s with heap := hp1, toks := tk1 } := by
  obtain ⟨dx, h1, h2, h3, h4, h5, t1, t2, t3, t4, t5, n, hm, hd⟩ := hK
  refine' get_own (attr := none) F X (InstAt.of_news N hm hd) ?k4 ?k5 ?k6 ?k7 ?k8 ?k9 ?_; (case k4 => kernel_rfl); (case k5 => kernel_rfl); (case k6 => kernel_rfl); (case k7 => kernel_rfl); (case k8 => k_get); (case k9 => k_handed); exact h
theorem m_kt_index {hp1 : Heap} {tk1 : Nat} (hK : KtAt news kt a1 a2 a3 a4 a5) (F : Fr h₀ L hp1 m) (X : (hd.heap_1 w.params).In h₀) (N : News h₀ L hp1 news) {ex : Bool} {Q : Value → Shared → Prop} (h : Q (.ref a2) { s with heap := hp1, toks := tk1 + 1 }) : wpAny (model PG w) A (getAttr (.ref kt) (Str.ofString "index") ex) Q E { s with heap := hp1, toks := tk1 } := by
  obtain ⟨dx, h1, h2, h3, h4, h5, t1, t2, t3, t4, t5, n, hm, hd⟩ := hK
  refine' get_own (attr := none) F X (InstAt.of_news N hm hd) ?k4 ?k5 ?k6 ?k7 ?k8 ?k9 ?_; (case k4 => kernel_rfl); (case k5 => kernel_rfl); (case k6 => kernel_rfl); (case k7 => kernel_rfl); (case k8 => k_get); (case k9 => k_handed); exact h
theorem m_kt_depths {hp1 : Heap} {tk1 : Nat} (hK : KtAt news kt a1 a2 a3 a4 a5) (F : Fr h₀ L hp1 m) (X : (hd.heap_1 w.params).In h₀) (N : News h₀ L hp1 news) {ex : Bool} {Q : Value → Shared → Prop} (h : Q (.ref a3) { s with heap := hp1, toks := tk1 + 1 }) : wpAny (model PG w) A (getAttr (.ref kt) (Str.ofString "depths") ex) Q E { s with heap := hp1, toks := tk1 } := by
  obtain ⟨dx, h1, h2, h3, h4, h5, t1, t2, t3, t4, t5, n, hm, hd⟩ := hK
  refine' get_own (attr := none) F X (InstAt.of_news N hm hd) ?k4 ?k5 ?k6 ?k7 ?k8 ?k9 ?_; (case k4 => kernel_rfl); (case k5 => kernel_rfl); (case k6 => kernel_rfl); (case k7 => kernel_rfl); (case k8 => k_get); (case k9 => k_handed); exact h
theorem m_kt_weights {hp1 : Heap} {tk1 : Nat} (hK : KtAt news kt a1 a2 a3 a4 a5) (F : Fr h₀ L hp1 m) (X : (hd.heap_1 w.params).In h₀) (N : News h₀ L hp1 news) {ex : Bool} {Q : Value → Shared → Prop} (h : Q (.ref a4) { s with heap := hp1, toks := tk1 + 1 }) : wpAny (model PG w) A (getAttr (.ref kt) (Str.ofString "weights") ex) Q E { s with heap := hp1, toks := tk1 } := by
  obtain ⟨dx, h1, h2, h3, h4, h5, t1, t2, t3, t4, t5, n, hm, hd⟩ := hK
  refine' get_own (attr := none) F X (InstAt.of_news N hm hd) ?k4 ?k5 ?k6 ?k7 ?k8 ?k9 ?_; (case k4 => kernel_rfl); (case k5 => kernel_rfl); (case k6 => kernel_rfl); (case k7 => kernel_rfl); (case k8 => k_get); (case k9 => k_handed); exact h
theorem m_kt_opens {hp1 : Heap} {tk1 : Nat} (hK : KtAt news kt a1 a2 a3 a4 a5) (F : Fr h₀ L hp1 m) (X : (hd.heap_1 w.params).In h₀) (N : News h₀ L hp1 news) {ex : Bool} {Q : Value → Shared → Prop} (h : Q (.ref a5) { s with heap := hp1, toks := tk1 + 1 }) : wpAny (model PG w) A (getAttr (.ref kt) (Str.ofString "opens") ex) Q E { s with heap := hp1, toks := tk1 } := by
  obtain ⟨dx, h1, h2, h3, h4, h5, t1, t2, t3, t4, t5, n, hm, hd⟩ := hK
  refine' get_own (attr := none) F X (InstAt.of_news N hm hd) ?k4 ?k5 ?k6 ?k7 ?k8 ?k9 ?_; (case k4 => kernel_rfl); (case k5 => kernel_rfl); (case k6 => kernel_rfl); (case k7 => kernel_rfl); (case k8 => k_get); (case k9 => k_handed); exact h
end
end Mine

end
theorem Mine.top_offT0 : True := by w_top off; trivial
theorem Mine.turnT0 {M : Model} {A : Around} {env : Env} {Q : Flow → Shared → Prop} {E : Value → Shared → Prop} {s : Shared} (h : Q .next s) : wpAny M A (execs [] env) Q E s := by walk1; exact h
section
-- A8_parts
local macro_rules | `(tactic| walk_at $k:str) => do
  if ["compareOp In int ref", "subscriptTail"].contains k.getString then `(tactic| refine Mine.hold_ ?_) else Lean.Macro.throwUnsupported
namespace Mine
open PySem.Spec PyProof.V PySem.Calls
theorem Shows.row {rows : List TRow} {nm : Nat → Option Str} {k l c d : Nat} {t : Str} (S : Shows rows nm k l t c d) : ∃ r, rows[k]? = some r := by
  rcases S.inv with ⟨_, _, h, _⟩ | ⟨_, _, _, h, _⟩ | ⟨_, _, _, h, _⟩ <;> exact ⟨_, h⟩
theorem emp_app (t : Str) : Str.ofString "" ++ t = t := by
  have e : Str.ofString "" = Str.empty := by decide +kernel
  rw [e, Str.empty_append]
theorem app_emp (t : Str) : t ++ Str.ofString "" = t := by
  have e : Str.ofString "" = Str.empty := by decide +kernel
  rw [e]
  show (⟨t.cps ++ #[]⟩ : Str) = t
  simp
theorem c_core {w : World} {rows : List TRow} {nm : Nat → Option Str} {old : List (Addr × Obj)} {kt namesA textsA : Addr} {n : Nat} (H : LevelOk w rows nm old kt namesA textsA n) (hnm : NamesAt w old namesA nm) (hnl : ∀ n t, nm n = some t → t.length ≤ 10)
    {k l c d : Nat} {t : Str} (S : Shows rows nm k l t c d) {r : TRow} {rv : Value} (hr : rows[k]? = some r) (hv : RowIn old rv r) (hna : ∀ s x, r = .two s x → ¬ isAround s)
    (ha3 : ∀ (k s tid : Nat) (args : List Nat), rows[k]? = some (.three s tid args) → args.length ≤ 16384) (ha4 : ∀ (k o mid : Nat) (args : List Nat), rows[k]? = some (.four o mid args) → args.length ≤ 16384)
    (hc : c ≤ n + 1) {D : List (PyData × PyData)} (ok : TextsOk rows nm D) (hlen : D.length + c ≤ 400000) {tk tl : Tok} :
    Ctl w (.ref 243) [.ref kt, .int k tk, rv, .ref namesA, .int l tl, .ref textsA] (4 * d + 8) (80 * d + 200) (LPre w old textsA D) (LPost w rows nm old textsA D (c - 1) t) := by
  have hz : ∀ {vs : List Value} {as : List Nat}, IntsAre vs (zs as) → as.length ≤ 16384 → vs.length ≤ 16384 := fun hi h => by have := hi.length; rw [zs, List.length_map] at this; exact this ▸ h
  cases r with
  | two s x =>
    obtain ⟨ra, t1, t2, rn, e, hra⟩ := hv
    rcases S.inv2 hr with ⟨ha, _⟩ | ⟨hb, et, _⟩
    · exact absurd ha (hna _ _ rfl)
    · rw [e]
      refine (c_core2 hb).wk (fun _ h => h.1 _ hra) (Nat.le_trans (by decide) (Nat.le_add_left 8 _)) (Nat.le_trans (by decide) (Nat.le_add_left 200 _)) fun news r news' h p => ?_
      obtain ⟨t', e, hs⟩ := p
      rw [e]
      exact LPost.mk et.symm (fun p hp _ => hs p hp) (fun p hp => hs p (h.1 p hp)) (tt_mono h.2 hs) ok (Nat.le_add_right _ _)
  | three s tid as =>
    obtain ⟨ra, rb, avs, t1, t2, rn, rn', e, hra, hrb, hi⟩ := hv
    rw [e]
    exact c_core3 H hnm hnl (S.inv3 hr) hra hrb hi (hz hi (ha3 _ _ _ _ hr)) hc ok hlen
  | four o mid as =>
    obtain ⟨ra, rb, avs, t0, t1, t2, rn, rn', e, hra, hrb, hi⟩ := hv
    rw [e]
    exact c_core4 H hnl (S.inv4 hr) hra hrb hi (hz hi (ha4 _ _ _ _ hr)) hc ok hlen
theorem row_head {rows : List TRow} {nm : Nat → Option Str} {old : List (Addr × Obj)} {k l c d : Nat} {t : Str} (S : Shows rows nm k l t c d) {r : TRow} {rv : Value} (hr : rows[k]? = some r) (hv : RowIn old rv r) (hna : ∀ s x, r = .two s x → ¬ isAround s) :
    ∃ (ra : Addr) (s : Nat) (ta : Tok) (rest : List Value) (rn : Nat), rv = .ref ra ∧ (ra, tupOf (.int (s : Int) ta :: rest) rn) ∈ old ∧ ¬ isAround s := by
  cases r with
  | two s x =>
    obtain ⟨ra, t1, t2, rn, e, hra⟩ := hv
    exact ⟨ra, s, t1, _, rn, e, hra, hna _ _ rfl⟩
  | three s tid as =>
    obtain ⟨ra, rb, avs, t1, t2, rn, rn', e, hra, hrb, hi⟩ := hv
    refine ⟨ra, s, t1, _, rn, e, hra, ?_⟩
    rcases (S.inv3 hr).1 with e | e <;> subst e <;> (unfold isAround; decide)
  | four o mid as =>
    obtain ⟨ra, rb, avs, t0, t1, t2, rn, rn', e, hra, hrb, hi⟩ := hv
    exact ⟨ra, 10, t0, _, rn, e, hra, by unfold isAround; decide⟩
theorem row_env {w : World} {rows : List TRow} {nm : Nat → Option Str} {old : List (Addr × Obj)} {kt namesA : Addr} (env : ShowEnv w old kt namesA rows nm) {k : Nat} {r : TRow} (hr : rows[k]? = some r) :
    ∃ rv, RowIn old rv r ∧ ∀ tk, Ctl w (.ref 69) [.ref kt, .int k tk] 5 50 (fun news => ∀ p ∈ old, p ∈ news) (fun news r news' => r = rv ∧ ∀ p ∈ news, p ∈ news') := by
  obtain ⟨⟨rowsA, idxA, depA, weiA, opnA, vs, nn, hkt, hrowsA, hvs, hrows⟩, _⟩ := env
  obtain ⟨rv, hv, hrv⟩ := hrows _ _ hr
  exact ⟨rv, hrv, fun tk => (c_row w hv hvs).wk (fun news h => ⟨hkt.mono h, h _ hrowsA⟩) (Nat.le_refl _) (Nat.le_refl _) fun _ _ _ _ p => p⟩
theorem env_kt {w : World} {rows : List TRow} {nm : Nat → Option Str} {old : List (Addr × Obj)} {kt namesA : Addr} (env : ShowEnv w old kt namesA rows nm) :
    ∃ dx dxo, (∃ h1 h2 h3 h4 h5 t1 t2 t3 t4 t5 n a1 a2 a3 a4 a5, dxo = dictOf [⟨h1, .str (Str.ofString "rows") t1, .ref a1⟩, ⟨h2, .str (Str.ofString "index") t2, .ref a2⟩, ⟨h3, .str (Str.ofString "depths") t3, .ref a3⟩, ⟨h4, .str (Str.ofString "weights") t4, .ref a4⟩, ⟨h5, .str (Str.ofString "opens") t5, .ref a5⟩] n) ∧
      (kt, instObj 79 dx) ∈ old ∧ (dx, dxo) ∈ old := by
  refine hideG ?_
  intro P k9
  obtain ⟨⟨a1, a2, a3, a4, a5, _, _, ⟨dx, h1, h2, h3, h4, h5, t1, t2, t3, t4, t5, n, hkt, hdx⟩, _⟩, _⟩ := env
  exact k9 ⟨dx, _, ⟨h1, h2, h3, h4, h5, t1, t2, t3, t4, t5, n, a1, a2, a3, a4, a5, rfl⟩, hkt, hdx⟩

/-- the state of show_parts' loop -/
def PartsJ (w : World) (rows : List TRow) (nm : Nat → Option Str) (old base : List (Addr × Obj)) (textsA : Addr) (D : List (PyData × PyData)) (T : Str) (l d n₀ : Nat) (n : Nat) (vals : List Value) (news : List (Addr × Obj)) : Prop :=
  ∃ (k : Nat) (t pre post : Str) (r : TRow) (rv : Value) (t1 t2 t3 : Tok), vals = [.str pre t1, .str post t2, .int (k : Int) t3, rv] ∧ rows[k]? = some r ∧ RowIn old rv r ∧ Shows rows nm k l t n d ∧ (pre ++ t) ++ post = T ∧ n ≤ n₀ ∧
    (∀ p ∈ old, p ∈ news) ∧ (∀ p ∈ base, p ∈ news) ∧ TupTab (intKind PG w) PyData.int news textsA D
theorem len3 {a b c T : Str} {N : Nat} (h : (a ++ b) ++ c = T) (hn : T.length ≤ N) : a.length + b.length ≤ N ∧ (a ++ b).length + c.length ≤ N := by
  have e := congrArg Str.length h
  rw [len_app, len_app] at e
  rw [len_app]
  exact ⟨Nat.le_trans (Nat.le_add_right _ _) (e ▸ hn), e ▸ hn⟩
theorem len_round {a b p t q T : Str} {N : Nat} (h : (a ++ ((p ++ t) ++ q)) ++ b = T) (hn : T.length ≤ N) : a.length + p.length ≤ N ∧ q.length + b.length ≤ N ∧ ((a ++ p) ++ t) ++ (q ++ b) = T := by
  have e := congrArg Str.length h
  simp only [len_app] at e
  refine ⟨by omega, by omega, ?_⟩
  rw [← h]
  simp only [Str.append_assoc]

set_option maxHeartbeats 8000000 in
theorem c_parts {w : World} {rows : List TRow} {nm : Nat → Option Str} {old : List (Addr × Obj)} {kt namesA textsA : Addr} {n : Nat} (H : LevelOk w rows nm old kt namesA textsA n) (env : ShowEnv w old kt namesA rows nm)
    {k l c d : Nat} {t : Str} (S : Shows rows nm k l t c d) (hc : c ≤ n + 1) {D : List (PyData × PyData)} (ok : TextsOk rows nm D) (hlen : D.length + c ≤ 400000) {tk tl : Tok} :
    Ctl w (.ref 236) [.ref kt, .int k tk, .ref namesA, .int l tl, .ref textsA] (4 * d + 9) (80 * d + 215) (LPre w old textsA D) (LPost w rows nm old textsA D (c - 1) t) := by
  obtain ⟨r, hr⟩ := S.row
  obtain ⟨rv, hrv, C0⟩ := row_env env hr
  obtain ⟨dx, dxo, ⟨hh1, hh2, hh3, hh4, hh5, ht1, ht2, ht3, ht4, ht5, hn9, a1, a2, a3, a4, a5, e0⟩, hkt, hdx⟩ := env_kt env
  subst e0
  have hnl := env.2.2.1
  have hT9 : t.length ≤ 16777216 := by have := Shows.len hnl S; omega
  unfold Ctl
  k_fill
  intro dp un gd cn cs a ccd cl outer A₀ base h₀ L m news s mean mg mb Q E B F X N T hk hpre hroom hunits ret
  have hold := hpre.1
  have TT := hpre.2
  have hkt1 := hold _ hkt
  have hdx1 := hold _ hdx
  clear hpre
  refine wpAny_call ?_
  k_dflt ktr_enter
  with_reducible rename Fr _ _ _ _ => F1
  replace F1 := fr_of (fun y => List.lookup y [(Str.ofString "texts", Value.ref textsA), (Str.ofString "level", Value.int l tl), (Str.ofString "names", Value.ref namesA), (Str.ofString "k", Value.int k tk), (Str.ofString "kt", Value.ref kt)]) F1 (by with_unfolding_all rfl)
  k_steps
  unfold Hold
  k_dflt (refine' Ctl.u0 (C0 _) ?B ?F ?X ?N ?T ?hk ?hp ?d ?u ?_; walk_at "m_ctl"; (case hp => exact hold))
  intro h9 tk9 news9 F9 N9 s9
  k_steps
  unfold Hold
  with_reducible rename Fr _ _ _ _ => F2
  with_reducible rename News _ _ _ _ => N2
  refine' m_while [Str.ofString "before", Str.ofString "behind", Str.ofString "k", Str.ofString "row"] [Str.ofString "words"] [_, _, _, _] (n₀ := c) (PartsJ w rows nm old news textsA D t l d c) F2 N2 ?hj ?hm ?turn ?hE
  case hm => 
    intro p hp
    simp only [List.zip_cons_cons, List.zip_nil_left, List.mem_cons, List.not_mem_nil, or_false] at hp
    rcases hp with rfl | rfl | rfl | rfl <;> rfl
  case hE => passes_own
  case hj => exact ⟨k, t, Str.ofString "", Str.ofString "", r, _, _, _, _, rfl, hr, hrv, S, by rw [emp_app, app_emp], Nat.le_refl _, fun p hp => s9 p (hold p hp), s9, tt_mono TT s9⟩
  case turn =>
    intro n2 vals u news2 h tk2 hJ F3 N3 K hK
    refine hideG ?_
    intro P k9
    obtain ⟨k2, t2, pre, post, r2, rv2, tA, tB, tC, e9, hr2, hrv2, S2, hT, hn2, hold2, hbase2, TT2⟩ := hJ
    subst e9
    clear F2 N2
    by_cases hna : ∀ s x, r2 = .two s x → ¬ isAround s
    · obtain ⟨ra, sn, ta, rest, rn, e8, hra, hns⟩ := row_head S2 hr2 hrv2 hna
      have C9 := c_core (tk := tC) (tl := tl) H env.2.1 hnl S2 hr2 hrv2 hna env.2.2.2.1 env.2.2.2.2 (Nat.le_trans hn2 hc) ok (Nat.le_trans (Nat.add_le_add_left hn2 _) hlen)
      obtain ⟨hl1, hl2⟩ := len3 hT hT9
      subst e8
      have hra2 := hold2 _ hra
      refine k9 ?_
      clear k9 hK hra hrv2
      with_reducible rename (hd.heap_1 w.params).In _ => X9
      have hdd : dp + 1 + (4 * d + 8) < recursionLimit := by omega
      have huu : un + 3 + (80 * d + 200) < cLine := by omega
      k_steps
      unfold Hold
      k_dflt (refine' m_itemTup N3 hra2 (x := .int (sn : Int) ta) (k := 0) rfl (Int.le_refl 0) (by decide) ?_)
      k_steps
      unfold Hold
      k_dflt (refine' m_arIn F3 X9 (ar_none hns) ?_)
      k_steps
      unfold Hold
      k_dflt (refine' Ctl.uL C9 ?B ?F ?X ?N ?T ?hk ?hold ?TT hdd huu ?_; (case B => k_asm); (case F => k_asm); (case X => k_asm); (case N => k_asm); (case T => k_asm); (case hk => exact rfl); (case hold => exact hold2); (case TT => exact TT2))
      intro ts h10 tk10 news10 D10 F10 N10 s10 hold10 T10 ok10 len10
      k_steps
      all_goals exact ret _ _ _ _ (by assumption) (by assumption) (LPost.mk hT (fun p hp hn => s10 p (hbase2 p hp) hn) hold10 T10 ok10 (Nat.le_trans len10 (Nat.add_le_add_left (Nat.sub_le_sub_right hn2 1) _)))
    · obtain ⟨s2, x2, e8, hs2⟩ : ∃ s x, r2 = .two s x ∧ isAround s := by
        refine Classical.byContradiction fun h => hna fun s x e h' => h ⟨s, x, e, h'⟩
      subst e8
      obtain ⟨ra, ta1, ta2, rn, e8, hra⟩ := hrv2
      subst e8
      rcases S2.inv2 hr2 with ⟨_, t3, c3, ec, et, S3⟩ | ⟨hb, _⟩
      rotate_left
      · exfalso; unfold isBase at hb; unfold isAround at hs2; omega
      subst ec et
      obtain ⟨r4, hr4⟩ := S3.row
      obtain ⟨rv4, hrv4, C4⟩ := row_env env hr4
      have hkt2 := hold2 _ hkt
      have hdx2 := hold2 _ hdx
      obtain ⟨aw, w1, w2, hAt⟩ := ar_at hs2
      obtain ⟨hl1, hl2, hT2⟩ := len_round hT hT9
      have hra2 := hold2 _ hra
      refine k9 ?_
      clear k9 hra hna S2 hT hr2
      with_reducible rename (hd.heap_1 w.params).In _ => X9
      k_steps
      unfold Hold
      k_dflt (refine' m_itemTup N3 hra2 (x := .int (s2 : Int) ta1) (k := 0) rfl (Int.le_refl 0) (by decide) ?_)
      k_steps
      unfold Hold
      k_dflt (refine' m_arIn (b := true) F3 X9 (congrArg Option.isSome hAt.1) ?_)
      k_steps
      unfold Hold
      with_reducible rename Fr _ _ _ _ => F4
      with_reducible rename News _ _ _ _ => N4
      k_dflt (refine' m_itemTup N4 hra2 (x := .int (s2 : Int) ta1) (k := 0) rfl (Int.le_refl 0) (by decide) ?_)
      k_steps
      unfold Hold
      k_dflt (refine' m_arItem F4 X9 hAt.1 ?_)
      k_steps
      unfold Hold
      with_reducible rename Fr _ _ _ _ => F5
      k_dflt (refine' m_itemAt (hAt.tup (X9.keeps F5.keep)) (x := .str (arPre s2) w1) (k := 0) rfl (Int.le_refl 0) (by decide) ?_)
      k_steps
      unfold Hold
      with_reducible rename Fr _ _ _ _ => F6
      k_dflt (refine' m_itemAt (hAt.tup (X9.keeps F6.keep)) (x := .str (arPost s2) w2) (k := 1) rfl (by decide) (by decide) ?_)
      k_steps
      unfold Hold
      with_reducible rename News _ _ _ _ => N7
      k_dflt (refine' m_itemTup N7 hra2 (x := .int (x2 : Int) ta2) (k := 1) rfl (by decide) (by decide) ?_)
      k_steps
      unfold Hold
      k_dflt (refine' Ctl.u0 (C4 _) ?B ?F ?X ?N ?T ?hk ?hp ?d ?u ?_; walk_at "m_ctl"; (case hp => exact hold2))
      intro h10 tk10 news10 F10 N10 s10
      k_steps
      unfold Hold KP
      exact hK .next _ (WEnd.of (by assumption) (by assumption) (Nat.lt_succ_self _) rfl (fun z h1 h2 => by
        simp only [List.contains_cons, List.contains_nil, Bool.or_false, Bool.or_eq_false_iff, beq_eq_false_iff_ne] at h1 h2
        simp [h1, h2, setN]) ⟨x2, t3, pre ++ arPre s2, arPost s2 ++ post, r4, rv4, _, _, _, rfl, hr4, hrv4, S3, hT2, Nat.le_trans (Nat.le_succ _) hn2, fun p hp => s10 p (hold2 p hp), fun p hp => s10 p (hbase2 p hp), tt_mono TT2 s10⟩)
end Mine

end
theorem Mine.top_offN4 : True := by w_top off; trivial
theorem Mine.turnN4 {M : Model} {A : Around} {env : Env} {Q : Flow → Shared → Prop} {E : Value → Shared → Prop} {s : Shared} (h : Q .next s) : wpAny M A (execs [] env) Q E s := by walk1; exact h
section
-- A9_level
namespace Mine
open PySem.Spec PyProof.V PySem.Calls

section
variable {w : World} {A : Around} {E : Value → Shared → Prop} {s : Shared} {h₀ : Heap} {L d a : Addr} {m : Str → Option Value} {news : List (Addr × Obj)} {D : List (PyData × PyData)} {k l : Int} {t1 t2 : Tok} {n : Nat} {r : Option PyData}

theorem key_obj : TupKeyObj (intKind PG w) [k, l] ({ cls := .type "tuple", data := .seq #[.int k t1, .int l t2] n } : Obj) :=
  ⟨rfl, _, _, rfl, .cons (intKind_is PG w k t1) (.cons (intKind_is PG w l t2) .nil)⟩

theorem m_notinT0 {hp1 : Heap} {tk1 : Nat} {Q : Value → Shared → Prop} (hu : A.units + 1 < cLine) (N : News h₀ L hp1 news) (T : TupTab (intKind PG w) PyData.int news d D) (hka : (a, ({ cls := .type "tuple", data := .seq #[.int k t1, .int l t2] n } : Obj)) ∈ news)
    (hl : PySem.Spec.lookup (encTuple PyData.int [k, l]) D = none) (h : Q (.bool true) { s with heap := hp1, toks := tk1 + 3 }) : wpAny (model PG w) A (compareOp .NotIn (.ref a) (.ref d)) Q E { s with heap := hp1, toks := tk1 } :=
  notin_tupTab same_int hu N T hka key_obj (by rw [hl]; exact h)
theorem m_notinT1 {hp1 : Heap} {tk1 : Nat} {v : PyData} {Q : Value → Shared → Prop} (hu : A.units + 1 < cLine) (N : News h₀ L hp1 news) (T : TupTab (intKind PG w) PyData.int news d D) (hka : (a, ({ cls := .type "tuple", data := .seq #[.int k t1, .int l t2] n } : Obj)) ∈ news)
    (hl : PySem.Spec.lookup (encTuple PyData.int [k, l]) D = some v) (h : Q (.bool false) { s with heap := hp1, toks := tk1 + 3 }) : wpAny (model PG w) A (compareOp .NotIn (.ref a) (.ref d)) Q E { s with heap := hp1, toks := tk1 } :=
  notin_tupTab same_int hu N T hka key_obj (by rw [hl]; exact h)
theorem m_itemT {hp1 : Heap} {tk1 : Nat} {value slice : PySem.Expr} {t : Str} {Q : Value → Shared → Prop} (hu : A.units + 1 < cLine) (N : News h₀ L hp1 news) (T : TupTab (intKind PG w) PyData.int news d D) (hka : (a, ({ cls := .type "tuple", data := .seq #[.int k t1, .int l t2] n } : Obj)) ∈ news)
    (hl : PySem.Spec.lookup (encTuple PyData.int [k, l]) D = some (.str t)) (h : ∀ tk, Q (.str t tk) { s with heap := hp1, toks := tk1 + 3 })
    (hs : subscripted slice false (.ref d) (.ref a) = operate [.ref d, .ref a] (getItem (.ref d) (.ref a)) := by with_unfolding_all rfl) (hg : ∀ r, letTemporaryGo value (.ref d) r = pure () := by intro _; with_unfolding_all rfl) :
    wpAny (model PG w) A (subscriptTail value slice (.ref d) (.ref a)) Q E { s with heap := hp1, toks := tk1 } :=
  item_tupTab same_int hu N T hka key_obj hl (fun v hv => by cases hv hp1; exact h _) hs hg
theorem m_setT {hp1 : Heap} {tk1 : Nat} {t : Str} {tk : Tok} {Q : Unit → Shared → Prop} (hu : A.units + 1 < cLine) (F : Fr h₀ L hp1 m) (N : News h₀ L hp1 news) (T : TupTab (intKind PG w) PyData.int news d D) (hka : (a, ({ cls := .type "tuple", data := .seq #[.int k t1, .int l t2] n } : Obj)) ∈ news) (hz : D.length ≤ 400000)
    (h : ∀ h' news', Fr h₀ L h' m → News h₀ L h' news' → TupTab (intKind PG w) PyData.int news' d (putD (encTuple PyData.int [k, l]) (.str t) D) → (a, ({ cls := .type "tuple", data := .seq #[.int k t1, .int l t2] n } : Obj)) ∈ news' → (∀ p ∈ news, p.1 ≠ d → p ∈ news') →
      Q () { s with heap := h', toks := tk1 + 3 }) : wpAny (model PG w) A (setItem (.ref d) (.ref a) (.str t tk)) Q E { s with heap := hp1, toks := tk1 } :=
  setItem_tupTab same_int hu (.str t tk) F N T hka key_obj (fun h' news' F' N' T' m' k' => h h' news' F' N' T' m' k') (by have e : sizeLine = 16777216 := rfl; omega)
end

theorem encT_inj {a b c d : Int} (h : ([a, b] : List Int) ≠ [c, d]) : a ≠ c ∨ b ≠ d := by
  by_cases h1 : a = c
  · exact .inr fun h2 => h (by rw [h1, h2])
  · exact .inl h1

theorem texts_put {rows : List TRow} {nm : Nat → Option Str} {D : List (PyData × PyData)} (ok : TextsOk rows nm D) {k l c d : Nat} {t : Str} (S : Shows rows nm k l t c d) : TextsOk rows nm (putD (encTuple PyData.int [(k : Int), (l : Int)]) (.str t) D) := by
  intro k' l' v hv
  by_cases e : ([(k' : Int), (l' : Int)] : List Int) = [(k : Int), (l : Int)]
  · rw [e, lookup_putK_same (keyEnc_tuple keyEnc_int)] at hv
    cases hv
    simp only [List.cons.injEq, and_true] at e
    obtain ⟨e1, e2⟩ := e
    have e3 : k' = k := by omega
    have e4 : l' = l := by omega
    subst e3 e4
    exact ⟨t, c, d, rfl, S⟩
  · rw [lookup_putK_other (keyEnc_tuple keyEnc_int) e] at hv
    exact ok k' l' v hv

theorem putD_len (dk dv : PyData) (D : List (PyData × PyData)) : (putD dk dv D).length ≤ D.length + 1 := by
  unfold putD
  split
  · rw [List.length_map]; omega
  · rw [List.length_append]; simp

theorem level_zero {w : World} {rows : List TRow} {nm : Nat → Option Str} {old : List (Addr × Obj)} {kt namesA textsA : Addr} : LevelOk w rows nm old kt namesA textsA 0 := by
  intro k l t c d D ki li tk tl hc S
  have := S.pos
  omega
end Mine

-- A9_level2
local macro_rules | `(tactic| walk_at $k:str) => do
  if ["compareOp NotIn ref ref", "subscriptTail"].contains k.getString then `(tactic| refine Mine.hold_ ?_) else Lean.Macro.throwUnsupported
namespace Mine
open PySem.Spec PyProof.V PySem.Calls
set_option maxHeartbeats 8000000 in
theorem c_level1 {w : World} {rows : List TRow} {nm : Nat → Option Str} {old : List (Addr × Obj)} {kt namesA textsA : Addr} {n : Nat} (H : LevelOk w rows nm old kt namesA textsA n) (env : ShowEnv w old kt namesA rows nm) (hold0 : ∀ p ∈ old, p.1 ≠ textsA) : LevelOk w rows nm old kt namesA textsA (n + 1) := by
  intro k l t c d D ki li tk tl hc S hki hli ok hlen
  subst hki hli
  have hpos := S.pos
  have hcl : (c - 1) + 1 = c := Nat.sub_add_cancel hpos
  unfold Ctl
  k_fill
  intro dp un gd cn cs a ccd cl outer A₀ base h₀ L m news s mean mg mb Q E B F X N T hk hpre hroom hunits ret
  have hold := hpre.1
  have TT := hpre.2
  clear hpre
  have hdd : dp + 1 + (4 * d + 9) < recursionLimit := by omega
  have huu : un + 3 + (80 * d + 215) < cLine := by omega
  refine wpAny_call ?_
  k_dflt ktr_enter
  with_reducible rename Fr _ _ _ _ => F1
  replace F1 := fr_of (fun y => List.lookup y [(Str.ofString "texts", Value.ref textsA), (Str.ofString "level", Value.int l tl), (Str.ofString "names", Value.ref namesA), (Str.ofString "k", Value.int k tk), (Str.ofString "kt", Value.ref kt)]) F1 (by with_unfolding_all rfl)
  k_steps
  unfold Hold
  with_reducible rename News _ _ _ _ => N1
  with_reducible rename ∀ p ∈ news, p.1 < _ => l1
  have hne := (tt_mem TT).elim fun _ h => ne_new l1 h.1
  by_cases hlk : PySem.Spec.lookup (encTuple PyData.int [(k : Int), (l : Int)]) D = none
  · k_dflt (refine' m_notinT0 ?_ N1 (tt_cons TT) (.head _) hlk ?_; (case _ => ktr_units))
    k_steps
    unfold Hold
    k_dflt (refine' Ctl.uL (c_parts H env S hc ok hlen) ?B ?F ?X ?N ?T ?hk ?hold ?TT hdd huu ?_; (case B => k_asm); (case F => k_asm); (case X => k_asm); (case N => k_asm); (case T => k_asm); (case hk => exact rfl); (case hold => exact fun p hp => .tail _ (hold p hp)); (case TT => exact tt_cons TT))
    intro ts h9 tk9 news9 D9 F9 N9 s9 hold9 T9 ok9 len9
    k_steps
    unfold Hold
    have hka := s9 _ (.head _) hne
    k_dflt (refine' m_setT ?_ F9 N9 T9 hka ?_ ?_; (case _ => ktr_units); (case _ => omega))
    intro h10 news10 F10 N10 T10 m10 s10
    k_steps
    unfold Hold
    k_dflt (refine' m_itemT ?_ N10 T10 m10 (lookup_putK_same (keyEnc_tuple keyEnc_int) _ _ _) ?_; (case _ => ktr_units))
    intro t9
    k_steps
    all_goals exact ret _ _ _ _ (by assumption) (by assumption) (LPost.mk rfl (fun p hp hn => s10 p (s9 p (.tail _ hp) hn) hn) (fun p hp => s10 p (hold9 p hp) (hold0 p hp)) T10 (texts_put ok9 S) (Nat.le_trans (putD_len _ _ _) (by omega)))
  · obtain ⟨v, hv⟩ := Option.ne_none_iff_exists'.mp hlk
    k_dflt (refine' m_notinT1 ?_ N1 (tt_cons TT) (.head _) hv ?_; (case _ => ktr_units))
    k_steps
    unfold Hold
    obtain ⟨t', c', d', e, S'⟩ := ok k l v hv
    rw [e, ← S.fn S'] at hv
    k_dflt (refine' m_itemT ?_ (by assumption) (tt_cons TT) (.head _) hv ?_; (case _ => ktr_units))
    intro t9
    k_steps
    all_goals exact ret _ _ _ _ (by assumption) (by assumption) (LPost.mk rfl (fun p hp _ => .tail _ hp) (fun p hp => .tail _ (hold p hp)) (tt_cons TT) ok (Nat.le_add_right _ _))

theorem c_level {w : World} {rows : List TRow} {nm : Nat → Option Str} {old : List (Addr × Obj)} {kt namesA textsA : Addr} (env : ShowEnv w old kt namesA rows nm) (hold0 : ∀ p ∈ old, p.1 ≠ textsA) : ∀ n, LevelOk w rows nm old kt namesA textsA n
  | 0 => level_zero
  | n + 1 => c_level1 (c_level env hold0 n) env hold0
end Mine

end
theorem Mine.top_offN5 : True := by w_top off; trivial
theorem Mine.turnN5 {M : Model} {A : Around} {env : Env} {Q : Flow → Shared → Prop} {E : Value → Shared → Prop} {s : Shared} (h : Q .next s) : wpAny M A (execs [] env) Q E s := by walk1; exact h
section
-- A10_show
namespace Mine
open PySem.Spec PyProof.V PySem.Calls
set_option maxHeartbeats 8000000 in
theorem c_show {w : World} {rows : List TRow} {nm : Nat → Option Str} {old : List (Addr × Obj)} {kt namesA : Addr} (env : ShowEnv w old kt namesA rows nm) {k c d : Nat} {t : Str} (S : Shows rows nm k 0 t c d) (hc : c ≤ 400000) {tk : Tok} :
    Ctl w (.ref 222) [.ref kt, .int k tk, .ref namesA] (4 * d + 11) (80 * d + 260) (fun news => ∀ p ∈ old, p ∈ news) (fun news r news' => ∃ tk, r = .str t tk ∧ ∀ p ∈ news, p ∈ news') := by
  unfold Ctl
  k_fill
  intro dp un gd cn cs a ccd cl outer A₀ base h₀ L m news s mean mg mb Q E B F X N T hk hold hroom hunits ret
  refine wpAny_call ?_
  k_dflt ktr_enter
  with_reducible rename Fr _ _ _ _ => F1
  replace F1 := fr_of (fun y => List.lookup y [(Str.ofString "names", Value.ref namesA), (Str.ofString "k", Value.int k tk), (Str.ofString "kt", Value.ref kt)]) F1 (by with_unfolding_all rfl)
  k_steps
  with_reducible rename ∀ p ∈ news, p.1 < _ => l1
  with_reducible rename Obj.IsDictOf (intKind _ _) _ _ => hi1
  with_reducible rename (_ == sysModules) = false => lo1
  with_reducible rename News _ _ _ _ => N1
  with_reducible rename Fr _ _ _ _ => F1
  k_dflt (refine' LevelOk.use (l := 0) (c_level env (fun p hp => Nat.ne_of_lt (l1 p (hold p hp))) c) S rfl rfl (Nat.le_refl _) ?ok ?len ?B F1 ?X N1 ?T ?hk ?hold (TupTab.ofEmpty (.head _) lo1 hi1) ?d ?u ?_)
  case ok => intro k l v hv; cases hv
  case len => simpa using hc
  case B => k_asm
  case X => k_asm
  case T => k_asm
  case hk => exact rfl
  case hold => exact fun p hp => .tail _ (hold p hp)
  case d => ktr_room
  case u => ktr_units
  intro tk9 h9 tk9' news9 D9 F9 N9 s9 hold9 T9 ok9 len9
  k_steps
  all_goals (exact ret _ _ _ _ (by assumption) (by assumption) ⟨_, rfl, fun p hp => s9 p (.tail _ hp) (Nat.ne_of_lt (l1 p hp))⟩)
end Mine

end
theorem Mine.top_offN6 : True := by w_top off; trivial
theorem Mine.turnN6 {M : Model} {A : Around} {env : Env} {Q : Flow → Shared → Prop} {E : Value → Shared → Prop} {s : Shared} (h : Q .next s) : wpAny M A (execs [] env) Q E s := by walk1; exact h
section
-- C1_words
namespace Mine
open PySem.Spec PyProof.V PySem.Calls

/-- a row of the law -/
inductive LRow where
  | word (n : Nat) | var (n : Nat) | mvar (n : Nat) | typ (n : Nat) (parts : List Nat) | meth (n : Nat) (parts : List Nat) | round (n x : Nat)

def LRow.form : LRow → Str
  | .word _ => Str.ofString "word" | .var _ => Str.ofString "!" | .mvar _ => Str.ofString "!!" | .typ .. => Str.ofString "type" | .meth .. => Str.ofString "method" | .round .. => Str.ofString "round"
def LRow.num : LRow → Nat
  | .word n | .var n | .mvar n | .typ n _ | .meth n _ | .round n _ => n
def LRow.parts : LRow → List Nat
  | .word _ | .var _ | .mvar _ => [] | .typ _ ps | .meth _ ps => ps | .round _ x => [x]

inductive LRowIn (news : List (Addr × Obj)) (v : Value) (r : LRow) : Prop
  | mk (a b : Addr) (ps : List Value) (t1 t2 : Tok) (n n' : Nat) (e : v = .ref a) (h : (a, tupOf [.str r.form t1, .int (r.num : Int) t2, .ref b] n) ∈ news) (h' : (b, tupOf ps n') ∈ news) (i : IntsAre ps (zs r.parts)) : LRowIn news v r
theorem LRowIn.tups {v : Value} {r : LRow} {news news' : List (Addr × Obj)} (hs : ∀ a vs n, (a, tupOf vs n) ∈ news → (a, tupOf vs n) ∈ news') (h : LRowIn news v r) : LRowIn news' v r :=
  h.rec fun a b ps t1 t2 n n' e h h' i => ⟨a, b, ps, t1, t2, n, n', e, hs _ _ _ h, hs _ _ _ h', i⟩
theorem LRowIn.mono {news news' : List (Addr × Obj)} {v : Value} {r : LRow} (hs : ∀ p ∈ news, p ∈ news') (h : LRowIn news v r) : LRowIn news' v r := h.tups fun _ _ _ => hs _

def listText (words : List Str) (low : Bool) : Str :=
  match words with
  | [] => Str.ofString ""
  | w :: ws => if low then Str.ofString "<..>" else (Str.ofString "<" ++ Txt.join (Str.ofString ", ") (w :: ws)) ++ Str.ofString ">"

section
variable {prog : Program} {w : World} {A : Around} {E : Value → Shared → Prop} {s : Shared} {h₀ : Heap} {L a b : Addr} {news : List (Addr × Obj)} {Q : Value → Shared → Prop}
theorem m_eqNil {vs : List Value} {n n' : Nat} (hu : A.units < cLine) (N : News h₀ L s.heap news) (ha : (a, W.listOf vs.toArray n) ∈ news) (hb : (b, W.listOf #[] n') ∈ news) (h : Q (.bool vs.isEmpty) s) :
    wpAny (model prog w) A (compareOp .Eq (.ref a) (.ref b)) Q E s := by
  have h1 := (N _ ha).1
  have h2 := (N _ hb).1
  have ta : s.TypeIs (.ref a) "list" := ⟨_, h1, rfl⟩
  have tb : s.TypeIs (.ref b) "list" := ⟨_, h2, rfl⟩
  show wpAny _ _ (richCompare .Eq (.ref a) (.ref b)) Q E s
  refine wpAny_richCompare_same_room (op := .Eq) ta tb F.slot_list_eq ?_ hu
  cases vs with
  | nil => exact call_meets F.slot_list_eq ta F.entry_list_eq (F.args_list_eq_2 _ _) (SeqAt.list_eqAt a b #[] #[] n n' none none #[] #[] rfl (fun _ => true)) ⟨h1, h2, fun j hj => absurd hj (by simp), ⟨by simp, h⟩⟩
  | cons v vs => exact call_meets F.slot_list_eq ta F.entry_list_eq (F.args_list_eq_2 _ _) (SeqAt.list_eq_lengthsAt a b (v :: vs).toArray #[] n n' none none #[] #[] (by simp)) ⟨h1, h2, ⟨by simp, h⟩⟩
theorem m_eqNil0 {n n' : Nat} (hu : A.units < cLine) (N : News h₀ L s.heap news) (ha : (a, W.listOf #[] n) ∈ news) (hb : (b, W.listOf #[] n') ∈ news) (h : Q (.bool true) s) :
    wpAny (model prog w) A (compareOp .Eq (.ref a) (.ref b)) Q E s := m_eqNil (vs := []) hu N ha hb h
theorem m_eqNil1 {v : Value} {vs : List Value} {n n' : Nat} (hu : A.units < cLine) (N : News h₀ L s.heap news) (ha : (a, W.listOf (v :: vs).toArray n) ∈ news) (hb : (b, W.listOf #[] n') ∈ news) (h : Q (.bool false) s) :
    wpAny (model prog w) A (compareOp .Eq (.ref a) (.ref b)) Q E s := m_eqNil (vs := v :: vs) hu N ha hb h
end
end Mine

-- C3_wdefs
namespace Mine
open PySem.Spec PyProof.V PySem.Calls

def innerOf (src : List Str) (ps : List Nat) : List Str := ps.map fun j => src.getD j (Str.ofString "")
def roundPre (n : Nat) : Str := ([Str.ofString "", Str.ofString "", Str.ofString "boxed ", Str.ofString "readonly ", Str.ofString "raw "] : List Str).getD n (Str.ofString "")
def roundPost (n : Nat) : Str := ([Str.ofString "[]", Str.ofString "&", Str.ofString "", Str.ofString "&", Str.ofString ""] : List Str).getD n (Str.ofString "")
def srcOf (here below : List Str) : List Str := if below.isEmpty then here else below

def wordOf (nm : Nat → Option Str) (here below : List Str) : LRow → Str
  | .word n => primWord n
  | .var n => Str.ofString "!" ++ numText n
  | .mvar n => Str.ofString "!!" ++ numText n
  | .typ n ps => nameText nm n ++ listText (innerOf (srcOf here below) ps) below.isEmpty
  | .meth n ps => (((Str.ofString "method " ++ (innerOf (srcOf here below) ps).getD 0 (Str.ofString "")) ++ Str.ofString "::") ++ numText n) ++ listText ((innerOf (srcOf here below) ps).drop 1) below.isEmpty
  | .round n x => (roundPre n ++ here.getD x (Str.ofString "")) ++ roundPost n

def wordsOf (nm : Nat → Option Str) (below : List Str) : List LRow → List Str → List Str
  | [], here => here
  | r :: rs, here => wordsOf nm below rs (here ++ [wordOf nm here below r])

def costOf (cs : List Nat) (ps : List Nat) : Nat := (ps.map fun j => cs.getD j 0).sum
def LRow.fits : LRow → Prop
  | .word n => n < 16
  | .round n _ => n < 5
  | .meth _ ps => 0 < ps.length ∧ ps.length ≤ 5
  | .typ _ ps => ps.length ≤ 5
  | _ => True
structure RowOk (cs : List Nat) (i : Nat) (r : LRow) : Prop where
  parts : ∀ j ∈ r.parts, j < i
  num : r.num < 1000
  fits : r.fits
  cost : costOf cs r.parts + 1 ≤ cs.getD i 0
  small : cs.getD i 0 ≤ 400000
def WBound (cs : List Nat) (ws : List Str) : Prop := ∀ j, j < ws.length → (ws.getD j (Str.ofString "")).length + 10 ≤ 40 * cs.getD j 0

theorem inner_sum {cs : List Nat} {src : List Str} (hb : WBound cs src) : ∀ {ps : List Nat}, (∀ j ∈ ps, j < src.length) → ((innerOf src ps).map (·.length)).sum + ps.length * 10 ≤ 40 * costOf cs ps
  | [], _ => by simp [innerOf, costOf]
  | p :: ps, h => by
    have h1 := hb p (h p (.head _))
    have h2 := inner_sum hb (ps := ps) fun j hj => h j (.tail _ hj)
    simp only [innerOf, costOf, List.map_cons, List.sum_cons, List.length_cons] at h1 h2 ⊢
    omega

theorem listText_len (ws : List Str) (low : Bool) : (listText ws low).length ≤ (ws.map (·.length)).sum + ws.length * 2 + 4 := by
  unfold listText
  have h0 := l_nil
  have h1 := l_dots
  have h2 := l_lt
  have h3 := l_gt
  have h4 := l_comma
  cases ws with
  | nil => simp only [List.map_nil, List.sum_nil, List.length_nil]; omega
  | cons w r =>
    cases low with
    | true => simp only [if_true]; omega
    | false =>
      have h5 := join_len (Str.ofString ", ") (w :: r)
      rw [h4] at h5
      simp only [Bool.false_eq_true, if_false, len_app]
      omega

theorem inner_len (src : List Str) (ps : List Nat) : (innerOf src ps).length = ps.length := by simp [innerOf]
theorem roundPre_len (n : Nat) : (roundPre n).length ≤ 9 := by
  unfold roundPre
  rcases n with _ | _ | _ | _ | _ | n <;> first | decide +kernel | (simp [l_nil])
theorem roundPost_len (n : Nat) : (roundPost n).length ≤ 2 := by
  unfold roundPost
  rcases n with _ | _ | _ | _ | _ | n <;> first | decide +kernel | (simp [l_nil])

theorem src_bound {cs : List Nat} {here below : List Str} (h1 : WBound cs here) (h2 : WBound cs below) : WBound cs (srcOf here below) := by
  unfold srcOf; split <;> assumption
theorem src_len {here below : List Str} {i : Nat} (h1 : i ≤ here.length) (h2 : below = [] ∨ i ≤ below.length) {j : Nat} (hj : j < i) : j < (srcOf here below).length := by
  unfold srcOf
  split
  · omega
  · rename_i h
    rcases h2 with e | e
    · subst e; simp at h
    · omega

theorem wordOf_len {nm : Nat → Option Str} (hn : ∀ n t, nm n = some t → t.length ≤ 10) {cs : List Nat} {here below : List Str} {r : LRow} (ok : RowOk cs here.length r) (h1 : WBound cs here) (h2 : WBound cs below) (h3 : below = [] ∨ here.length ≤ below.length) :
    (wordOf nm here below r).length + 10 ≤ 40 * cs.getD here.length 0 := by
  have hc := ok.cost
  have hsb := src_bound h1 h2
  cases r with
  | word n => have := primWord_len ok.fits; simp only [wordOf, LRow.parts, costOf, List.map_nil, List.sum_nil] at *; omega
  | var n => have := numText_len ok.num; have := l_bang; simp only [wordOf, LRow.parts, LRow.num, costOf, List.map_nil, List.sum_nil, len_app] at *; omega
  | mvar n => have := numText_len ok.num; have := l_bang2; simp only [wordOf, LRow.parts, LRow.num, costOf, List.map_nil, List.sum_nil, len_app] at *; omega
  | typ n ps =>
    have a1 := nameText_len hn ok.num
    have a2 := listText_len (innerOf (srcOf here below) ps) below.isEmpty
    have a3 := inner_sum hsb (ps := ps) fun j hj => src_len (Nat.le_refl _) h3 (ok.parts j hj)
    rw [inner_len] at a2
    simp only [wordOf, LRow.parts, LRow.num, len_app] at *
    omega
  | meth n ps =>
    have a1 := numText_len ok.num
    have a0 := l_meth
    have a9 := l_col
    have a2 := listText_len ((innerOf (srcOf here below) ps).drop 1) below.isEmpty
    have a3 := inner_sum hsb (ps := ps) fun j hj => src_len (Nat.le_refl _) h3 (ok.parts j hj)
    cases hps : innerOf (srcOf here below) ps with
    | nil =>
      have := inner_len (srcOf here below) ps
      rw [hps] at this
      have := ok.fits.1
      simp at *
      omega
    | cons t ts =>
      have hl := inner_len (srcOf here below) ps
      rw [hps] at a2 a3 hl
      simp only [wordOf, hps, LRow.parts, LRow.num, len_app, List.getD_cons_zero, List.drop_succ_cons, List.drop_zero, List.map_cons, List.sum_cons, List.length_cons] at *
      omega
  | round n x =>
    have a1 := roundPre_len n
    have a2 := roundPost_len n
    have a3 := h1 x (ok.parts x (.head _))
    simp only [wordOf, LRow.parts, LRow.num, costOf, len_app, List.map_cons, List.map_nil, List.sum_cons, List.sum_nil] at *
    omega

theorem wb_getElem {cs : List Nat} {ws : List Str} (hb : WBound cs ws) {j : Nat} {w : Str} (h : ws[j]? = some w) : w.length + 10 ≤ 40 * cs.getD j 0 := by
  have hj := (List.getElem?_eq_some_iff.mp h).1
  have := hb j hj
  rw [List.getD_eq_getElem?_getD, h] at this
  exact this
theorem strs_at {ol : List (Str × Tok)} {j : Nat} (h : j < ol.length) : ∃ t, (strValues ol)[j]? = some (.str ((ol.map (·.1)).getD j (Str.ofString "")) t) := by
  refine ⟨(ol[j]).2, ?_⟩
  rw [List.getD_eq_getElem?_getD, List.getElem?_map, strValues, List.getElem?_map, List.getElem?_eq_getElem h]
  rfl
/-- what the inner comprehension has made -/
theorem inner_vals {src : List Str} : ∀ {ps : List Nat} {ys : List Value}, ys.length = ps.length → (∀ (i : Nat) (y : Value), ys[i]? = some y → ∃ j t, ps[i]? = some j ∧ y = Value.str (src.getD j (Str.ofString "")) t) → ∃ il, ys = strValues il ∧ il.map (·.1) = innerOf src ps := by
  intro ps
  induction ps with
  | nil =>
    intro ys hl _
    rw [List.length_eq_zero_iff.mp hl]
    exact ⟨[], rfl, rfl⟩
  | cons p ps ih =>
    intro ys hl h
    cases ys with
    | nil => exact absurd hl (Nat.succ_ne_zero _).symm
    | cons y ys =>
    obtain ⟨il, e1, e2⟩ := ih (ys := ys) (Nat.succ.inj hl) fun i z hz => h (i + 1) z hz
    obtain ⟨j, t, h1, h2⟩ := h 0 y rfl
    have e : p = j := Option.some.inj h1
    subst e
    exact ⟨(src.getD p (Str.ofString ""), t) :: il, by rw [h2, e1]; rfl, by rw [List.map_cons, e2]; rfl⟩

theorem LRow.parts_len {r : LRow} (h : r.fits) : r.parts.length ≤ 5 := by
  cases r <;> simp_all [LRow.fits, LRow.parts]
theorem inner_join {cs : List Nat} {src : List Str} (hb : WBound cs src) {ps : List Nat} (h : ∀ j ∈ ps, j < src.length) (hc : costOf cs ps ≤ 400000) :
    JoinOk (Str.ofString ", ") (innerOf src ps) = true ∧ (Txt.join (Str.ofString ", ") (innerOf src ps)).length ≤ 16000000 := by
  have h1 := inner_sum hb h
  have h2 := join_len (Str.ofString ", ") (innerOf src ps)
  have h3 := inner_len src ps
  rw [l_comma, h3] at h2
  exact ⟨joinOk_of (by rw [l_comma, h3]; omega), by omega⟩

theorem wb_snoc {cs : List Nat} {ws : List Str} {t : Str} (h : WBound cs ws) (ht : t.length + 10 ≤ 40 * cs.getD ws.length 0) : WBound cs (ws ++ [t]) := by
  intro j hj
  rw [List.length_append, List.length_singleton] at hj
  by_cases e : j < ws.length
  · rw [List.getD_eq_getElem?_getD, List.getElem?_append_left e, ← List.getD_eq_getElem?_getD]; exact h j e
  · have e' : j = ws.length := by omega
    subst e'
    rw [List.getD_eq_getElem?_getD, List.getElem?_append_right (Nat.le_refl _)]
    simpa using ht

section
variable {w : World} {A : Around} {E : Value → Shared → Prop} {s : Shared} {h₀ : Heap} {L a : Addr} {news : List (Addr × Obj)} {nm : Nat → Option Str}
theorem NamesAt.tab {hq : Heap} (hn : NamesAt w news a nm) (N : News h₀ L hq news) : ∃ D, IntTab PP w hq a D ∧ ∀ n : Nat, PySem.Spec.lookup (PyData.int (n : Int)) D = (nm n).map PyData.str :=
  by
  obtain ⟨lo, o, kvs, D, hm, hd, hf, hl⟩ := hn
  exact ⟨D, TabAt.ofNews N hm lo hd hf, hl⟩
theorem m_namesGet {hp1 : Heap} {tk1 : Nat} {n : Nat} {tk td : Tok} {d : Str} {Q : Value → Shared → Prop} (N : News h₀ L hp1 news) (hn : NamesAt w news a nm) (hd : d = Str.ofString "T" ++ numText n)
    (h : ∀ t', Q (.str (nameText nm n) t') { s with heap := hp1, toks := tk1 + 1 }) : wpAny (model PP w) A (call (.builtin "dict.get") [.ref a, .int n tk, .str d td]) Q E { s with heap := hp1, toks := tk1 } := by
  obtain ⟨D, T, hl⟩ := hn.tab N
  refine call_get2_intTab T (Flat.str d td) fun v hv => ?_
  rw [hl n] at hv
  unfold nameText at h
  cases e : nm n with
  | some t =>
    rw [e] at hv h
    cases hv hp1
    exact h _
  | none =>
    rw [e] at hv h
    subst hd
    cases hv hp1
    exact h _
theorem m_namesMethod {pl : Sem Bool} {Q : Value × List Value → Shared → Prop} (N : News h₀ L s.heap news) (hn : NamesAt w news a nm) (h : Q (.builtin "dict.get", [.ref a]) s) :
    wpAny (model PP w) A (getMethod (.ref a) "get" pl) Q E s := let ⟨_, T, _⟩ := hn.tab N; getMethod_intTab_get T h
end
theorem two_ne {a b D : Addr} {o o' : Obj} (h1 : a ≠ D) (h2 : b ≠ D) : ∀ p ∈ [(a, o), (b, o')], p.1 ≠ D := fun p hp => by
  rcases List.mem_cons.mp hp with rfl | hp
  · exact h1
  · rw [List.mem_singleton.mp hp]; exact h2
theorem inner_listText {cs : List Nat} {src : List Str} (hb : WBound cs src) {ps : List Nat} (h : ∀ j ∈ ps, j < src.length) (hc : costOf cs ps ≤ 400000) (low : Bool) : (listText (innerOf src ps) low).length ≤ 16000100 := by
  have h1 := inner_sum hb h
  have h2 := listText_len (innerOf src ps) low
  rw [inner_len] at h2
  omega
theorem listText_map {ws ws' : List Str} {low : Bool} (e : ws = ws') : listText ws low = listText ws' low := by rw [e]
theorem inner_head {cs : List Nat} {src : List Str} (hb : WBound cs src) {ps : List Nat} (h : ∀ j ∈ ps, j < src.length) (hc : costOf cs ps ≤ 400000) {t : Str} {ts : List Str} (e : t :: ts = innerOf src ps) :
    t.length ≤ 16000000 ∧ JoinOk (Str.ofString ", ") ts = true ∧ (Txt.join (Str.ofString ", ") ts).length ≤ 16000000 ∧ ∀ low, t.length + (listText ts low).length ≤ 16000100 := by
  have h1 := inner_sum hb h
  have h3 := inner_len src ps
  rw [← e] at h1 h3
  simp only [List.map_cons, List.sum_cons, List.length_cons] at h1 h3
  have h2 := join_len (Str.ofString ", ") ts
  rw [l_comma] at h2
  refine ⟨by omega, joinOk_of (by rw [l_comma]; omega), by omega, fun low => ?_⟩
  have h4 := listText_len ts low
  omega
end Mine

-- B2_turns
namespace Mine
open PySem.Spec PyProof.V PySem.Calls
section
variable {prog : Program} {w : World} {A : Around} {E : Value → Shared → Prop} {s : Shared} {env : Env} {h₀ : Heap} {x : Str} {target : PySem.Expr} {body : List Stmt} {Q : Flow → Shared → Prop}

theorem m_turns {I : Addr} {fp : List Addr} {n : Nat} {P : Nat → Value → Prop} {St : Nat → Heap → Prop} {s₂ : Shared} {m₀ : Str → Option Value} {news fix : List (Addr × Obj)} {itc : String} (names stored : List Str) (vals₀ : List Value)
    (J : Nat → List Value → List (Addr × Obj) → Prop) (hx : stored.contains x = true)
    (W : Walks prog w A I fp [I] n P St) (hgo : ∀ i v (s : Shared) (Q : Unit → Shared → Prop) (E : Value → Shared → Prop), St i s.heap → Q () s → wpAny (model prog w) A (letOwnedTupleGo target (.ref I) v) Q E s)
    (hL : env.locals ∉ fp) (hI : h₀.get? I = none) (hfp : ∀ b ∈ fp, b = I ∨ ∃ o, (b, o) ∈ fix) (hfix : ∀ p ∈ fix, p ∈ news) (hnI : ∀ p ∈ news, p.1 ≠ I) (hIfp : I ∈ fp)
    (hcls : ∀ i h, St i h → ∃ it : Obj, h.get? I = some it ∧ it.cls = .type itc)
    (st0 : St 0 s₂.heap) (F : Fr h₀ env.locals s₂.heap m₀) (N : News h₀ env.locals s₂.heap news) (hj : J 0 vals₀ news) (hm₀ : ∀ z, m₀ z = setN (names.zip vals₀) m₀ z)
    (turn : ∀ i v it h tk vals (u : Str → Option Value) news₁, i < n → P i v → it.cls = .type itc → (∀ p ∈ news₁, p.1 ≠ I) → (∀ p ∈ fix, p ∈ news₁) → J i vals news₁ →
      Fr h₀ env.locals h (fun z => if stored.contains z then u z else setN (names.zip vals) m₀ z) → News h₀ env.locals h ((I, it) :: news₁) →
      ∀ K : Flow → Shared → Prop, (∀ f s', MPost h₀ env.locals x names stored m₀ (J (i + 1)) I it fix { s₂ with heap := h, toks := tk } Q f s' → K f s') → wpAny (model prog w) A (assign target env v) (fun _ s₃ => wpAny (model prog w) A (execs body env) (KP K) E s₃) E { s₂ with heap := h, toks := tk })
    (done : ∀ vals (u : Str → Option Value) news₁ h tk, J n vals news₁ → (∀ p ∈ fix, p ∈ news₁) → Fr h₀ env.locals h (fun z => if stored.contains z then u z else setN (names.zip vals) m₀ z) → News h₀ env.locals h news₁ → Q .next { s₂ with heap := h, toks := tk }) :
    TurnsAt prog w A h₀ env target body Q E (.ref I) s₂ := by
  let J' : Nat → (Str → Option Value) → List (Addr × Obj) → Prop := fun i m news₁ => (∀ p ∈ fix, p ∈ news₁) ∧ ∃ vals, J i vals news₁ ∧ ∀ z, stored.contains z = false → m z = setN (names.zip vals) m₀ z
  refine ⟨I, fp, [I], n, _, _, St, m₀, news, J', rfl, KTurns.ofWalks W hgo, hL, ?_, ?_, st0, F, N, ⟨hfix, vals₀, hj, fun z _ => hm₀ z⟩, ?_, ?_⟩
  · intro b hb
    rw [List.mem_singleton.mp hb]; exact hI
  · intro p hp hq
    exact hnI p hp (List.mem_singleton.mp hq)
  · rintro i v m₁ news₁ hh tk' own hin hP ⟨hfx, vals, hJ, hm⟩ hoff hown hget hall hst F₁ N₁
    obtain ⟨it, hit, hic⟩ := hcls _ _ hst
    have hmemI := hall I hIfp hI it hit
    have hoff' : ∀ p ∈ news₁, p.1 ≠ I := fun p hp e => hoff p hp (List.mem_singleton.mpr e)
    have N₂ : News h₀ env.locals hh ((I, it) :: news₁) := fun p hp => by
      rcases List.mem_cons.mp hp with rfl | hp
      · exact N₁ _ (List.mem_append_left _ hmemI)
      · exact N₁ _ (List.mem_append_right _ hp)
    have e : m₁ = fun z => if stored.contains z then m₁ z else setN (names.zip vals) m₀ z := by
      funext z
      cases h3 : stored.contains z with
      | true => simp
      | false => simp only [Bool.false_eq_true, if_false]; exact hm z h3
    rw [e] at F₁
    refine wpAny_mono (turn i v it hh tk' vals m₁ news₁ hin hP hic hoff' hfx hJ F₁ N₂ _ fun _ _ p => p) (fun _ s₃ p => wpAny_mono p (fun f s₃ p => ?_) fun _ _ e => e) fun _ _ e => e
    have fin : MEnd h₀ env.locals x names stored m₀ (J (i + 1)) I it fix { s₂ with heap := hh, toks := tk' } s₃ → LoopStepU h₀ env.locals [I] own (J' (i + 1)) { s₂ with heap := hh, toks := tk' } .next s₃ := by
      rintro ⟨h', tk, m', news', vals', e, F', N', hI', hf', hm', hj'⟩
      refine ⟨rfl, h', tk, m', offI I news', e, F', fun p hp => ?_, fun p hp hq => (mem_offI.mp hp).2 (List.mem_singleton.mp hq), fun p hp => mem_offI.mpr ⟨hf' p hp, hoff' p (hfx p hp)⟩, vals', hj', fun z hz => hm' z (fun e => by rw [e, hx] at hz; cases hz) hz⟩
      rcases List.mem_append.mp hp with hp | hp
      · rcases hfp _ (hown p hp) with h1 | ⟨o, h1⟩
        · have h2 := hget p hp
          have h3 : p = (I, it) := by
            rw [h1] at h2
            exact Prod.ext h1 (Option.some.inj (h2.symm.trans hit))
          rw [h3]; exact N' _ hI'
        · have h2 := hget p hp
          have h4 := (N₁ _ (List.mem_append_right own (hfx _ h1))).1
          have h3 : p = (p.1, o) := Prod.ext rfl (Option.some.inj (h2.symm.trans h4))
          rw [h3]; exact N' _ (hf' _ h1)
      · exact N' _ (mem_offI.mp hp).1
    cases f with
    | ret v => exact .ret p
    | brk => exact .brk p
    | next => exact .next (fin p)
    | cont => exact .cont (fin p)
  · rintro h' tk m' news' F' N' _ ⟨hfx, vals, hJ, hm⟩
    refine done vals m' news' h' tk hJ hfx ?_ N'
    have e : (fun z => if stored.contains z then m' z else setN (names.zip vals) m₀ z) = m' := by
      funext z
      cases h3 : stored.contains z with
      | true => simp
      | false => simp only [Bool.false_eq_true, if_false]; exact (hm z h3).symm
    rw [e]; exact F'

theorem m_turnL {hp : Heap} {tk0 : Nat} {l : Addr} {lo : Obj} {vs : List Value} {k : Nat} {m₀ : Str → Option Value} {news : List (Addr × Obj)} (names stored : List Str) (vals₀ : List Value)
    (J : Nat → List Value → List (Addr × Obj) → Prop) (hx : stored.contains x = true)
    (hh : A.handled = none) (hm : (l, lo) ∈ news) (hc : lo.cls = .type "list") (hd : lo.data = .seq vs.toArray k)
    (F : Fr h₀ env.locals hp m₀) (N : News h₀ env.locals hp news) (hj : J 0 vals₀ news) (hm₀ : ∀ p ∈ names.zip vals₀, m₀ p.1 = some p.2)
    (turn : ∀ I i v it h tk vals (u : Str → Option Value) news₁, (∀ p ∈ news, p.1 < I) → vs[i]? = some v → it.cls = .type "list_iterator" → (∀ p ∈ news₁, p.1 ≠ I) → (l, lo) ∈ news₁ → J i vals news₁ →
      Fr h₀ env.locals h (fun z => if stored.contains z then u z else setN (names.zip vals) m₀ z) → News h₀ env.locals h ((I, it) :: news₁) →
      ∀ K : Flow → Shared → Prop, (∀ f s', MPost h₀ env.locals x names stored m₀ (J (i + 1)) I it [(l, lo)] { s with heap := h, toks := tk } Q f s' → K f s') → wpAny (model prog w) A (assign target env v) (fun _ s₃ => wpAny (model prog w) A (execs body env) (KP K) E s₃) E { s with heap := h, toks := tk })
    (done : ∀ vals (u : Str → Option Value) news₁ h tk, J vs.length vals news₁ → (l, lo) ∈ news₁ → Fr h₀ env.locals h (fun z => if stored.contains z then u z else setN (names.zip vals) m₀ z) → News h₀ env.locals h news₁ → Q .next { s with heap := h, toks := tk }) :
    wpAny (model prog w) A (pyIter (.ref l)) (fun it s₂ => TurnsAt prog w A h₀ env target body Q E it s₂) E { s with heap := hp, toks := tk0 } := by
  have hax := N _ hm
  have hl : hp.IsList l vs.toArray := ⟨lo, hax.1, hc, k, hd⟩
  have hlt : l < hp.objs.size := Heap.lt_size hax.1
  have hne : l ≠ hp.objs.size := Nat.ne_of_lt hlt
  refine wpAny_pyIter_list hl ?_
  have hlen : vs.toArray.size = vs.length := by simp
  have W := Walks.list (prog := prog) (w := w) hh hp.objs.size l hne vs.toArray
  rw [hlen] at W
  refine m_turns (fix := [(l, lo)]) (itc := "list_iterator") names stored vals₀ J hx W (fun i v s Q E st q => letGo_listiter st.1 q) ?_ (next_is_new F) ?_ ?_ (fun p hp => Nat.ne_of_lt (Heap.lt_size (N p hp).1)) (.head _) (fun i h st => let ⟨o, h1, h2, _⟩ := st.1; ⟨o, h1, h2⟩) ⟨⟨_, Heap.get?_push_size _ rfl, rfl, rfl⟩, hl.at fun o e => Heap.get?_push_of_some _ e⟩ (F.push _) (fun p hp => ⟨Heap.get?_push_of_some _ (N p hp).1, (N p hp).2⟩) hj (fun z => setN_self hm₀ z) ?_ ?_
  · intro hmm
    rcases List.mem_cons.mp hmm with e | hmm
    · exact absurd F.ns.lt (e ▸ Nat.lt_irrefl _)
    · exact hax.2.1 (List.mem_singleton.mp hmm).symm
  · intro b hb
    rcases List.mem_cons.mp hb with e | hb
    · exact .inl e
    · exact .inr ⟨lo, by rw [List.mem_singleton.mp hb]; exact .head _⟩
  · intro p hp
    rw [List.mem_singleton.mp hp]; exact hm
  · intro i v it h tk vals u news₁ _ hP hic hoff hf hJ F₁ N₁
    exact turn _ i v it h tk vals u news₁ (fun p hp => Heap.lt_size (N p hp).1) (by simpa using hP) hic hoff (hf _ (.head _)) hJ F₁ N₁
  · intro vals u news₁ h tk hJ hf F₁ N₁
    exact done vals u news₁ h tk hJ (hf _ (.head _)) F₁ N₁
end
end Mine

-- B3_comp
namespace Mine
open PySem.Spec PyProof.V PySem.Calls PyProof.Rows.LCg
section
variable {prog : Program} {w : World} {A : Around} {E : Value → Shared → Prop} {s : Shared} {h₀ : Heap} {L : Addr} {m : Str → Option Value} {env : Env} {elt iter : PySem.Expr} {x : Str} {scope : Scope} {cl : List (Str × Addr)}

theorem tup_st {ax I : Addr} {its : Array Value} {k : Nat} : ∀ i (h h' : Heap) (o : Obj) (nw : List (Addr × Obj)), (h.IsTupleIter I ax i ∧ h.IsTuple ax its) → h.get? I = some o → h'.get? I = some o → (∀ b o, h₀.get? b = some o → h'.get? b = some o) → News h₀ L h' nw →
    (ax, ({ cls := .type "tuple", data := .seq its k } : Obj)) ∈ nw → (h'.IsTupleIter I ax i ∧ h'.IsTuple ax its) :=
  fun i h h' o nw st e e' _ N S => ⟨by obtain ⟨o', q, r⟩ := st.1; rw [e] at q; cases q; exact ⟨o, e', r⟩, ⟨_, (N _ S).1, rfl, k, rfl⟩⟩

theorem off1_mem {D : Addr} : ∀ {l : List (Addr × Obj)}, Off1 D l → ∀ p ∈ l, p.1 ≠ D
  | [], _, _, h => nomatch h
  | _ :: _, x, p, h => by
    rcases List.mem_cons.mp h with rfl | h
    · exact x.1
    · exact off1_mem x.2 p h

/-- what an element's evaluation must keep -/
def EltEnd (h₀ : Heap) (L : Addr) (m : Str → Option Value) (s₁ : Shared) (need : List (Addr × Obj)) (G : Value → Prop) (y : Value) (s₂ : Shared) : Prop :=
  G y ∧ ∃ h' tk all, s₂ = { s₁ with heap := h', toks := tk } ∧ Fr h₀ L h' m ∧ News h₀ L h' all ∧ ∀ p ∈ need, p ∈ all
theorem EltEnd.intro {s₁ : Shared} {need all : List (Addr × Obj)} {G : Value → Prop} {y : Value} {h' : Heap} {tk : Nat} (hG : G y) (F : Fr h₀ L h' m) (N : News h₀ L h' all) (sub : ∀ p ∈ need, p ∈ all) : EltEnd h₀ L m s₁ need G y { s₁ with heap := h', toks := tk } :=
  ⟨hG, h', tk, all, rfl, F, N, sub⟩

theorem comp_pure {S : List (Addr × Obj) → Prop} {P : Nat → Value → Prop} {Fin : List Value → List (Addr × Obj) → Prop} {n : Nat} {news : List (Addr × Obj)} (G : Nat → Value → Prop) (hS : S news)
    (step : ∀ i v I oI C oC D ys m₂ h tk (E' : Value → Shared → Prop), i < n → P i v → NsObj oC m₂ → m₂ x = some v → Fr h₀ L h m → News h₀ L h ((I, oI) :: (C, oC) :: (D, lst ys) :: news) →
      wpAny (model prog w) A (eval elt (compEnvC scope cl C env)) (EltEnd h₀ L m { s with heap := h, toks := tk } ((I, oI) :: (C, oC) :: (D, lst ys) :: news) (G i)) E' { s with heap := h, toks := tk })
    (fin : ∀ ys, ys.length = n → (∀ i y, ys[i]? = some y → G i y) → Fin ys news) : CompRest prog w A h₀ L m env elt x scope cl s S P Fin n 0 [] news := by
  have all : ∀ k i ys, i + k = n → ys.length = i → (∀ j y, ys[j]? = some y → G j y) → CompRest prog w A h₀ L m env elt x scope cl s S P Fin k i ys news := by
    intro k
    induction k with
    | zero => intro i ys hi hl hg; exact CompRest.zero (fin ys (by omega) hg)
    | succ k ih =>
      intro i ys hi hl hg
      refine CompRest.succ fun v I oI C oC D m₂ h tk E' hP hC hx F N off ne => ?_
      refine wpAny_mono (step i v I oI C oC D ys m₂ h tk E' (by omega) hP hC hx F N) (fun y s₂ he => ?_) fun _ _ e => e
      obtain ⟨hG, h', tk', al, rfl, F', N', sub⟩ := he
      refine CompEnd.intro F' N' news sub off hS (ih (i + 1) (ys ++ [y]) (by omega) (by rw [List.length_append, hl]; rfl) fun j z hz => ?_)
      by_cases hj : j < ys.length
      · rw [List.getElem?_append_left hj] at hz; exact hg j z hz
      · rw [List.getElem?_append_right (by omega)] at hz
        have hj' : j - ys.length = 0 := by
          have := (List.getElem?_eq_some_iff.mp hz).1
          simp at this; omega
        rw [hj'] at hz
        have e : j = i := by omega
        subst e
        cases hz; exact hG
  exact all n 0 [] (by omega) rfl fun j y hy => by simp at hy

variable {px py : Pos} {pos spos : Pos}
/-- a comprehension over a tuple of the ledger, bound to a name -/
theorem m_compA {y : Str} {Q : Flow → Shared → Prop} (_F₀ : Fr h₀ L s.heap m) (G : Nat → Value → Prop) {ax : Addr} {its : Array Value} {k : Nat} (hLe : env.locals = L)
    (hsw : swapsWith (.ListComp elt [⟨.Name x px, iter, [], 0⟩] scope pos) (some (.Name y py)) spos.line env = pure true)
    (hclos : closureFor scope env = pure cl) (hcell : ∀ z ∈ scope.names, z.2 ≠ .cell) (hkind : scope.kind = .function)
    (hnames : ∀ z ∈ scope.names, z.2 = .local → scope.names.lookup z.1 = some .local) (hx : scope.names.lookup x = some .local)
    (hy : env.kindOf y = some .local) (hp : (env.scope.kind == .class || (env.scope.kind == .module && env.locals != env.globals)) = false) (hh : A.handled = none)
    (h : wpAny (model prog w) A (eval iter env) (fun xv s₁ => ∃ news, xv = .ref ax ∧ Fr h₀ L s₁.heap m ∧ News h₀ L s₁.heap news ∧ (ax, ({ cls := .type "tuple", data := .seq its k } : Obj)) ∈ news ∧ its.size ≤ sizeLine ∧
      (∀ i v I oI C oC D ys m₂ h tk (E' : Value → Shared → Prop), its[i]? = some v → NsObj oC m₂ → m₂ x = some v → Fr h₀ L h m → News h₀ L h ((I, oI) :: (C, oC) :: (D, lst ys) :: news) →
        wpAny (model prog w) A (eval elt (compEnvC scope cl C env)) (EltEnd h₀ L m { s₁ with heap := h, toks := tk } ((I, oI) :: (C, oC) :: (D, lst ys) :: news) (G i)) E' { s₁ with heap := h, toks := tk }) ∧
      ∀ D ys h tk, ys.length = its.size → (∀ i y, ys[i]? = some y → G i y) → Fr h₀ L h (fun z => if z = y then some (.ref D) else m z) → News h₀ L h ((D, lst ys) :: news) → (∀ p ∈ news, p.1 ≠ D) → Q .next { s₁ with heap := h, toks := tk }) E s)
    (hs : ∀ x, foldedSetIterable iter env x = pure x := by intro _; rfl) :
    wpAny (model prog w) A (exec (.Assign [.Name y py] (.ListComp elt [⟨.Name x px, iter, [], 0⟩] scope pos) spos) env) Q E s := by
  subst hLe
  rw [exec_Assign_Name_used _ _ _ _ hsw]
  refine wpAny_bind (wpAny_standAt (wpAny_bind ?_))
  show wpAny _ A (do let _ ← comprehension (.ListComp elt [⟨.Name x px, iter, [], 0⟩] scope pos) scope env _ (newList []) false (eval iter env) (some (assign (.Name y py) env))) _ _ s
  refine wpAny_bind (wpAny_mono (wpAny_comprehension_free (use := some (assign (.Name y py) env)) (Q := fun _ s' => Q .next s') rfl hs hclos hkind hnames
    (wpAny_mono h (fun xv s₁ h₁ => ?_) fun _ _ e => e)) (fun _ s' hq => wpAny_pure (wpAny_pure hq)) fun _ _ e => e)
  obtain ⟨news, rfl, F, N, hm, hsz, step, fin⟩ := h₁
  have hl : s₁.heap.IsTuple ax its := ⟨_, (N _ hm).1, rfl, k, rfl⟩
  have hlt : ax < s₁.heap.objs.size := Heap.lt_size (N _ hm).1
  refine wpAny_pyIter_tuple hl ?_
  refine block_U (Fin := FinA h₀ env.locals m s₁ y Q) (S := fun nw => (ax, ({ cls := .type "tuple", data := .seq its k } : Obj)) ∈ nw) (Walks.tuple hh s₁.heap.objs.size ax (Nat.ne_of_lt hlt) its) hsz (fun i h st => by obtain ⟨o, e, _⟩ := st.1; exact ⟨o, e⟩) tup_st hcell hkind hx ⟨⟨_, Heap.get?_push_size _ rfl, rfl, rfl⟩, hl.push _⟩ (fun b hb => ?_)
    (F.keeps fun b o e => Heap.get?_push_of_some _ e) (N.grown fun b o e => Heap.get?_push_of_some _ e) (Nat.ne_of_lt F.ns.lt) (next_is_new F) (fun p hp => Nat.ne_of_lt (Heap.lt_size (N p hp).1)) hm
    (comp_pure G hm (fun i v I oI C oC D ys m₂ h tk E' _ hP hC hx F₁ N₁ => step i v I oI C oC D ys m₂ h tk E' hP hC hx F₁ N₁) (fun ys hlen hg D h tk F₁ N₁ o1 => fin D ys h tk hlen hg F₁ N₁ (off1_mem o1))) ?_
  · show b < (s₁.heap.push _).objs.size
    rw [Heap.size_push]
    rcases List.mem_cons.mp hb with rfl | hb
    · exact Nat.lt_succ_self _
    · rw [List.mem_singleton.mp hb]; exact Nat.lt_succ_of_lt hlt
  · intro D C h' tk m' ys news' F' N' o1 hn hC₀ hD₀ hCL hDL hCD offC fin
    show wpAny _ A (assign (.Name y py) env (.ref D)) _ _ _
    refine wpAny_assign_Name (wpAny_storeName_local hy F'.ns (fun h₂ hn₂ hs₂ => ?_) hp)
    have low : ∀ b o, h₀.get? b = some o → b ≠ env.locals := fun b o e q => by
      rw [q, Heap.get?_none_of_le F'.above] at e; cases e
    have F₂ : Fr h₀ env.locals h₂ (fun z => if z = y then some (.ref D) else m z) := ⟨hn₂, fun b o e => hs₂.extBut b o (low b o e) (F'.keep b o e), F'.above⟩
    refine ⟨m', hn.sameBut hs₂ hCL, fun h₃ hs₃ => fin D h₃ _ (F₂.change hs₃ hCL hC₀) (fun p hp => ⟨hs₃.extBut _ _ ?_ (hs₂.extBut _ _ (N' p hp).2.1 (N' p hp).1), (N' p hp).2⟩) o1⟩
    rcases List.mem_cons.mp hp with rfl | hp
    · exact fun q => hCD q.symm
    · exact offC p hp
/-- a comprehension over a tuple of the ledger -/
theorem m_compE {Q : Value → Shared → Prop} (_F₀ : Fr h₀ L s.heap m) (G : Nat → Value → Prop) {ax : Addr} {its : Array Value} {k : Nat}
    (hclos : closureFor scope env = pure cl) (hcell : ∀ z ∈ scope.names, z.2 ≠ .cell) (hkind : scope.kind = .function)
    (hnames : ∀ z ∈ scope.names, z.2 = .local → scope.names.lookup z.1 = some .local) (hx : scope.names.lookup x = some .local)
    (hh : A.handled = none)
    (h : wpAny (model prog w) A (eval iter env) (fun xv s₁ => ∃ news, xv = .ref ax ∧ Fr h₀ L s₁.heap m ∧ News h₀ L s₁.heap news ∧ (ax, ({ cls := .type "tuple", data := .seq its k } : Obj)) ∈ news ∧ its.size ≤ sizeLine ∧
      (∀ i v I oI C oC D ys m₂ h tk (E' : Value → Shared → Prop), its[i]? = some v → NsObj oC m₂ → m₂ x = some v → Fr h₀ L h m → News h₀ L h ((I, oI) :: (C, oC) :: (D, lst ys) :: news) →
        wpAny (model prog w) A (eval elt (compEnvC scope cl C env)) (EltEnd h₀ L m { s₁ with heap := h, toks := tk } ((I, oI) :: (C, oC) :: (D, lst ys) :: news) (G i)) E' { s₁ with heap := h, toks := tk }) ∧
      ∀ D ys h tk, ys.length = its.size → (∀ i y, ys[i]? = some y → G i y) → Fr h₀ L h m → News h₀ L h ((D, lst ys) :: news) → (∀ p ∈ news, p.1 ≠ D) → Q (.ref D) { s₁ with heap := h, toks := tk }) E s)
    (hs : ∀ x, foldedSetIterable iter env x = pure x := by intro _; rfl) :
    wpAny (model prog w) A (eval (.ListComp elt [⟨.Name x px, iter, [], 0⟩] scope pos) env) Q E s := by
  rw [eval_ListComp]
  refine wpAny_comprehension_free (use := none) rfl hs hclos hkind hnames (wpAny_mono h (fun xv s₁ h₁ => ?_) fun _ _ e => e)
  obtain ⟨news, rfl, F, N, hm, hsz, step, fin⟩ := h₁
  have hl : s₁.heap.IsTuple ax its := ⟨_, (N _ hm).1, rfl, k, rfl⟩
  have hlt : ax < s₁.heap.objs.size := Heap.lt_size (N _ hm).1
  refine wpAny_pyIter_tuple hl ?_
  refine block_U (Fin := FinE h₀ L m s₁ Q) (S := fun nw => (ax, ({ cls := .type "tuple", data := .seq its k } : Obj)) ∈ nw) (Walks.tuple hh s₁.heap.objs.size ax (Nat.ne_of_lt hlt) its) hsz (fun i h st => by obtain ⟨o, e, _⟩ := st.1; exact ⟨o, e⟩) tup_st hcell hkind hx ⟨⟨_, Heap.get?_push_size _ rfl, rfl, rfl⟩, hl.push _⟩ (fun b hb => ?_)
    (F.keeps fun b o e => Heap.get?_push_of_some _ e) (N.grown fun b o e => Heap.get?_push_of_some _ e) (Nat.ne_of_lt F.ns.lt) (next_is_new F) (fun p hp => Nat.ne_of_lt (Heap.lt_size (N p hp).1)) hm
    (comp_pure G hm (fun i v I oI C oC D ys m₂ h tk E' _ hP hC hx F₁ N₁ => step i v I oI C oC D ys m₂ h tk E' hP hC hx F₁ N₁) (fun ys hlen hg D h tk F₁ N₁ o1 => fin D ys h tk hlen hg F₁ N₁ (off1_mem o1))) ?_
  · show b < (s₁.heap.push _).objs.size
    rw [Heap.size_push]
    rcases List.mem_cons.mp hb with rfl | hb
    · exact Nat.lt_succ_self _
    · rw [List.mem_singleton.mp hb]; exact Nat.lt_succ_of_lt hlt
  · intro D C h' tk m' ys news' F' N' o1 hn hC₀ hD₀ hCL hDL hCD offC fin
    refine ⟨m', hn, fun h₃ hs₃ => fin D h₃ tk (F'.change hs₃ hCL hC₀) (fun p hp => ⟨hs₃.extBut _ _ ?_ (N' p hp).1, (N' p hp).2⟩) o1⟩
    rcases List.mem_cons.mp hp with rfl | hp
    · exact fun q => hCD q.symm
    · exact offC p hp
end
end Mine

-- B4_cells
namespace Mine
open PySem.Spec PyProof.V PySem.Calls
section
variable {M : Model} {A : Around} {E : Value → Shared → Prop} {s : Shared} {h₀ : Heap} {L a : Addr} {m : Str → Option Value} {cn : Str} {cs : Scope} {ccd : Value} {cl : List (Str × Addr)}
  {x : Str} {v : Value} {Q : Unit → Shared → Prop} {news : List (Addr × Obj)} {c : Addr} {o : Obj} {v₀ : Option Value}
theorem m_storeC (F : Fr h₀ L s.heap m) (N : News h₀ L s.heap news) (hc : cl.lookup x = some c) (hm : (c, o) ∈ news) (hd : o.data = .cell v₀)
    (h : ∀ h' o' news', Fr h₀ L h' m → News h₀ L h' news' → (c, o') ∈ news' → o'.data = .cell (some v) → (∀ p ∈ news, p.1 ≠ c → p ∈ news') → Q () { s with heap := h' })
    (hk : cs.kind = .function := by rfl) (hx : (envX cn cs L a ccd cl).kindOf x = some .cell := by rfl) : wpAny M A (storeName (envX cn cs L a ccd cl) x v) Q E s := by
  have z := N _ hm
  refine wpAny_storeName_cell hk hx hc ⟨o, z.1, hd⟩ fun h' hv hs => ?_
  obtain ⟨o', ho', hd'⟩ := hv
  refine h h' o' (news.map fun p => if p.1 = c then (c, o') else p) (F.change hs z.2.1 z.2.2) (N.replace hs ho') (List.mem_map.mpr ⟨_, hm, by simp⟩) hd' fun p hp hne => List.mem_map.mpr ⟨p, hp, by simp [hne]⟩
end
section
variable {prog : Program} {w : World} {A : Around} {E : Value → Shared → Prop} {s : Shared} {h₀ : Heap} {L l : Addr} {m : Str → Option Value} {news : List (Addr × Obj)} {value slice : PySem.Expr} {Q : Value → Shared → Prop}
theorem m_slice {vs zs : List Value} {n : Nat} {vl vu : Value} {lo hi : Option Int} (F : Fr h₀ L s.heap m) (N : News h₀ L s.heap news) (hm : (l, W.listOf vs.toArray n) ∈ news) (pl : IsPart vl lo) (pu : IsPart vu hi) (e : kms_pick vs lo hi = zs) (hz : vs.length ≤ 16384)
    (h : ∀ D h', Fr h₀ L h' m → News h₀ L h' ((D, W.listOf zs.toArray 0) :: news) → (∀ p ∈ news, p.1 < D) → Q (.ref D) { s with heap := h' })
    (hs : subscripted slice false (.ref l) (.ref s.heap.objs.size) = operate [.ref s.heap.objs.size, .ref l] (getItem (.ref l) (.ref s.heap.objs.size))) (ht : ∀ r, letTemporaryGo value (.ref l) r = pure ()) :
    wpAny (model prog w) A (subscriptTail value slice (.ref l) (.ref s.heap.objs.size)) Q E { s with heap := s.heap.push { cls := .type "slice", data := .fields #[vl, vu, .none] } } :=
  kms_slice_lit F N ⟨_, (N _ hm).1, rfl, n, rfl⟩ pl pu (by simpa using e) h hs ht (by have : sizeLine = 16777216 := rfl; rw [List.size_toArray]; omega)
theorem m_slice1 {v : Value} {vs : List Value} {n : Nat} {u : Tok} (F : Fr h₀ L s.heap m) (N : News h₀ L s.heap news) (hm : (l, W.listOf (v :: vs).toArray n) ∈ news) (hz : (v :: vs).length ≤ 16384)
    (h : ∀ D h', Fr h₀ L h' m → News h₀ L h' ((D, W.listOf vs.toArray 0) :: news) → (∀ p ∈ news, p.1 < D) → Q (.ref D) { s with heap := h' })
    (hs : subscripted slice false (.ref l) (.ref s.heap.objs.size) = operate [.ref s.heap.objs.size, .ref l] (getItem (.ref l) (.ref s.heap.objs.size))) (ht : ∀ r, letTemporaryGo value (.ref l) r = pure ()) :
    wpAny (model prog w) A (subscriptTail value slice (.ref l) (.ref s.heap.objs.size)) Q E { s with heap := s.heap.push { cls := .type "slice", data := .fields #[.int 1 u, .none, .none] } } :=
  m_slice F N hm (.int 1 u) .none (by simp [kms_pick, kms_lo, kms_hi]) hz h hs ht
end
end Mine

-- B5_mid
namespace Mine
open PySem.Spec PyProof.V PySem.Calls
theorem mid {M : Model} {A : Around} {X : Sem Flow} {G : Flow → Shared → Prop} {E : Value → Shared → Prop} {s : Shared} (P : Flow → Shared → Prop) (h2 : ∀ f s', P f s' → G f s')
    (h1 : ∀ K : Flow → Shared → Prop, (∀ f s', P f s' → K f s') → wpAny M A X (KP K) E s) : wpAny M A X G E s := wpAny_mono (h1 P fun _ _ p => p) h2 fun _ _ e => e
/-- a stretch of code has stored a text -/
def TxtEnd (h₀ : Heap) (L : Addr) (m : Str → Option Value) (x : Str) (news : List (Addr × Obj)) (t : Str) (s₁ : Shared) (f : Flow) (s₂ : Shared) : Prop :=
  f = .next ∧ ∃ tk h' k' news', s₂ = { s₁ with heap := h', toks := k' } ∧ Fr h₀ L h' (fun z => if z = x then some (.str t tk) else m z) ∧ News h₀ L h' news' ∧ ∀ p ∈ news, p ∈ news'
theorem TxtEnd.mk {h₀ : Heap} {L : Addr} {m : Str → Option Value} {x : Str} {news news' : List (Addr × Obj)} {t : Str} {s₁ : Shared} {tk : Tok} {h' : Heap} {k' : Nat} (F : Fr h₀ L h' (fun z => if z = x then some (.str t tk) else m z)) (N : News h₀ L h' news') (sub : ∀ p ∈ news, p ∈ news') :
    TxtEnd h₀ L m x news t s₁ .next { s₁ with heap := h', toks := k' } := ⟨rfl, tk, h', k', news', rfl, F, N, sub⟩
theorem midT {M : Model} {A : Around} {X : Sem Flow} {G : Flow → Shared → Prop} {E : Value → Shared → Prop} {s : Shared} {h₀ : Heap} {L : Addr} {m : Str → Option Value} {news : List (Addr × Obj)} (x t : Str) (_F : Fr h₀ L s.heap m) (_N : News h₀ L s.heap news)
    (h2 : ∀ tk h' k' news', Fr h₀ L h' (fun z => if z = x then some (.str t tk) else m z) → News h₀ L h' news' → (∀ p ∈ news, p ∈ news') → G .next { s with heap := h', toks := k' })
    (h1 : ∀ K : Flow → Shared → Prop, (∀ s', TxtEnd h₀ L m x news t s .next s' → K .next s') → wpAny M A X (KP K) E s) : wpAny M A X G E s :=
  mid (TxtEnd h₀ L m x news t s) (fun f s' p => by obtain ⟨rfl, tk, h', k', news', rfl, F, N, sub⟩ := p; exact h2 tk h' k' news' F N sub) fun K hK => h1 K fun s' p => hK _ _ p
/-- a stretch of code has stored a number, or left it -/
def IntEnd (h₀ : Heap) (L : Addr) (m : Str → Option Value) (x : Str) (P : Nat → Prop) (news : List (Addr × Obj)) (s₁ : Shared) (f : Flow) (s₂ : Shared) : Prop :=
  f = .next ∧ ∃ (n : Nat) (tk : Tok) (h' : Heap) (k' : Nat) (news' : List (Addr × Obj)), P n ∧ s₂ = { s₁ with heap := h', toks := k' } ∧ Fr h₀ L h' (fun z => if z = x then some (.int (n : Int) tk) else m z) ∧ News h₀ L h' news' ∧ ∀ p ∈ news, p ∈ news'
theorem IntEnd.mk {h₀ : Heap} {L : Addr} {m : Str → Option Value} {x : Str} {P : Nat → Prop} {news news' : List (Addr × Obj)} {s₁ : Shared} {tk : Tok} {h' : Heap} {k' : Nat} (n : Nat) (hn : P n) (F : Fr h₀ L h' (fun z => if z = x then some (.int (n : Int) tk) else m z)) (N : News h₀ L h' news') (sub : ∀ p ∈ news, p ∈ news') :
    IntEnd h₀ L m x P news s₁ .next { s₁ with heap := h', toks := k' } := ⟨rfl, n, tk, h', k', news', hn, rfl, F, N, sub⟩
theorem IntEnd.keep {h₀ : Heap} {L : Addr} {m : Str → Option Value} {x : Str} {P : Nat → Prop} {news news' : List (Addr × Obj)} {s₁ : Shared} {tk : Tok} {h' : Heap} {k' : Nat} (n : Nat) (hn : P n) (hx : m x = some (.int (n : Int) tk)) (F : Fr h₀ L h' m) (N : News h₀ L h' news') (sub : ∀ p ∈ news, p ∈ news') :
    IntEnd h₀ L m x P news s₁ .next { s₁ with heap := h', toks := k' } := .mk n hn (fr_of _ F (funext fun z => by
      by_cases e : z = x
      · rw [if_pos e, e]; exact hx
      · rw [if_neg e])) N sub
theorem midI {hp : Heap} {tk0 : Nat} {M : Model} {A : Around} {X : Sem Flow} {G : Flow → Shared → Prop} {E : Value → Shared → Prop} {s : Shared} {h₀ : Heap} {L : Addr} {m : Str → Option Value} {news : List (Addr × Obj)} (x : Str) (P : Nat → Prop) (_F : Fr h₀ L hp m) (_N : News h₀ L hp news)
    (h2 : ∀ n tk h' k' news', P n → Fr h₀ L h' (fun z => if z = x then some (.int (n : Int) tk) else m z) → News h₀ L h' news' → (∀ p ∈ news, p ∈ news') → G .next { s with heap := h', toks := k' })
    (h1 : ∀ K : Flow → Shared → Prop, (∀ s', IntEnd h₀ L m x P news s .next s' → K .next s') → wpAny M A X (KP K) E { s with heap := hp, toks := tk0 }) : wpAny M A X G E { s with heap := hp, toks := tk0 } :=
  mid (IntEnd h₀ L m x P news s) (fun f s' p => by obtain ⟨rfl, n, tk, h', k', news', hn, rfl, F, N, sub⟩ := p; exact h2 n tk h' k' news' hn F N sub) fun K hK => h1 K fun s' p => hK _ _ p
/-- a stretch of code has stored a value, or left it -/
def ValEnd (h₀ : Heap) (L : Addr) (m : Str → Option Value) (x : Str) (P : Value → List (Addr × Obj) → Prop) (s₁ : Shared) (f : Flow) (s₂ : Shared) : Prop :=
  f = .next ∧ ∃ (v : Value) (h' : Heap) (k' : Nat) (news' : List (Addr × Obj)), P v news' ∧ s₂ = { s₁ with heap := h', toks := k' } ∧ Fr h₀ L h' (fun z => if z = x then some v else m z) ∧ News h₀ L h' news'
theorem ValEnd.mk {h₀ : Heap} {L : Addr} {m : Str → Option Value} {x : Str} {P : Value → List (Addr × Obj) → Prop} {news' : List (Addr × Obj)} {s₁ : Shared} {v : Value} {h' : Heap} {k' : Nat} (F : Fr h₀ L h' (fun z => if z = x then some v else m z)) (N : News h₀ L h' news') (hn : P v news') :
    ValEnd h₀ L m x P s₁ .next { s₁ with heap := h', toks := k' } := ⟨rfl, v, h', k', news', hn, rfl, F, N⟩
theorem ValEnd.keep {h₀ : Heap} {L : Addr} {m : Str → Option Value} {x : Str} {P : Value → List (Addr × Obj) → Prop} {news' : List (Addr × Obj)} {s₁ : Shared} {v : Value} {h' : Heap} {k' : Nat} (hx : m x = some v) (F : Fr h₀ L h' m) (N : News h₀ L h' news') (hn : P v news') :
    ValEnd h₀ L m x P s₁ .next { s₁ with heap := h', toks := k' } := .mk (fr_of _ F (funext fun z => by
      by_cases e : z = x
      · rw [if_pos e, e]; exact hx
      · rw [if_neg e])) N hn
theorem midV {hp : Heap} {tk0 : Nat} {M : Model} {A : Around} {X : Sem Flow} {G : Flow → Shared → Prop} {E : Value → Shared → Prop} {s : Shared} {h₀ : Heap} {L : Addr} {m : Str → Option Value} (x : Str) (P : Value → List (Addr × Obj) → Prop) (_F : Fr h₀ L hp m)
    (h2 : ∀ v h' k' news', P v news' → Fr h₀ L h' (fun z => if z = x then some v else m z) → News h₀ L h' news' → G .next { s with heap := h', toks := k' })
    (h1 : ∀ K : Flow → Shared → Prop, (∀ s', ValEnd h₀ L m x P s .next s' → K .next s') → wpAny M A X (KP K) E { s with heap := hp, toks := tk0 }) : wpAny M A X G E { s with heap := hp, toks := tk0 } :=
  mid (ValEnd h₀ L m x P s) (fun f s' p => by obtain ⟨rfl, v, h', k', news', hn, rfl, F, N⟩ := p; exact h2 v h' k' news' hn F N) fun K hK => h1 K fun s' p => hK _ _ p
/-- the law's ROUND -/
def RdAt (a : Addr) (n : Nat) (t1 t2 : Tok) : Prop := ([.ref 259, .ref 260, .ref 261, .ref 262, .ref 263] : List Value)[n]? = some (.ref a) ∧ ∀ w : World, (hd.heap_1 w.params).lookup a = some ({ cls := .type "tuple", data := .seq #[.str (roundPre n) t1, .str (roundPost n) t2] 0 } : Obj)
theorem rd_at {n : Nat} (h : n < 5) : ∃ a t1 t2, RdAt a n t1 t2 :=
  match n, h with
  | 0, _ => ⟨259, 657, 658, rfl, fun w => by kernel_rfl⟩
  | 1, _ => ⟨260, 659, 660, rfl, fun w => by kernel_rfl⟩
  | 2, _ => ⟨261, 661, 662, rfl, fun w => by kernel_rfl⟩
  | 3, _ => ⟨262, 663, 664, rfl, fun w => by kernel_rfl⟩
  | 4, _ => ⟨263, 665, 666, rfl, fun w => by kernel_rfl⟩
  | n + 5, h => absurd h (Nat.not_lt.mpr (Nat.le_add_left 5 n))
theorem rd_top {w : World} {H : Heap} (X : (hd.heap_1 w.params).In H) : IsTup H 264 #[.ref 259, .ref 260, .ref 261, .ref 262, .ref 263] := ⟨_, X _ _ (show (hd.heap_1 w.params).lookup 264 = some ({ cls := .type "tuple", data := .seq #[.ref 259, .ref 260, .ref 261, .ref 262, .ref 263] 0 } : Obj) by kernel_rfl), rfl, 0, rfl⟩
theorem RdAt.at {a : Addr} {n : Nat} {t1 t2 : Tok} (h : RdAt a n t1 t2) : (#[.ref 259, .ref 260, .ref 261, .ref 262, .ref 263] : Array Value)[((n : Nat) : Int).toNat]? = some (.ref a) := (List.getElem?_toArray (xs := ([.ref 259, .ref 260, .ref 261, .ref 262, .ref 263] : List Value)) (i := n)).trans h.1
theorem RdAt.tup {a : Addr} {n : Nat} {t1 t2 : Tok} (h : RdAt a n t1 t2) {w : World} {H : Heap} (X : (hd.heap_1 w.params).In H) : IsTup H a #[.str (roundPre n) t1, .str (roundPost n) t2] := ⟨_, X _ _ (h.2 w), rfl, 0, rfl⟩
end Mine

-- C2_list
local macro_rules | `(tactic| walk_at $k:str) => do
  if ["compareOp Eq ref ref", "call builtin:str.join"].contains k.getString then `(tactic| refine Mine.hold_ ?_) else Lean.Macro.throwUnsupported
namespace Mine
open PySem.Spec PyProof.V PySem.Calls
set_option maxHeartbeats 8000000 in
theorem c_list {w : World} {wl bl : Addr} {ol bls : List (Str × Tok)} {n1 n2 : Nat} (hj : JoinOk (Str.ofString ", ") (ol.map (·.1)) = true) (hjl : (Txt.join (Str.ofString ", ") (ol.map (·.1))).length ≤ 16000000) :
    Ctl w (.ref 290) [.ref wl, .ref bl] 5 100 (fun news => (wl, W.listOf (strValues ol).toArray n1) ∈ news ∧ (bl, W.listOf (strValues bls).toArray n2) ∈ news)
      (fun news r news' => ∃ t, r = .str (listText (ol.map (·.1)) bls.isEmpty) t ∧ ∀ p ∈ news, p ∈ news') := by
  unfold Ctl
  k_fill
  intro dp un gd cn cs a ccd cl outer A₀ base h₀ L m news s mean mg mb Q E B F X N T hk hpre hroom hunits ret
  have hwl := hpre.1
  have hbl := hpre.2
  clear hpre
  have hT1 : (Str.ofString "<").length + (Txt.join (Str.ofString ", ") (ol.map (·.1))).length ≤ 16777216 := by rw [l_lt]; omega
  have hT2 : (Str.ofString "<" ++ Txt.join (Str.ofString ", ") (ol.map (·.1))).length + (Str.ofString ">").length ≤ 16777216 := by rw [len_app, l_lt, l_gt]; omega
  refine wpAny_call ?_
  k_dflt ktr_enter
  with_reducible rename Fr _ _ _ _ => F1
  replace F1 := fr_of (fun y => List.lookup y [(Str.ofString "below", Value.ref bl), (Str.ofString "words", Value.ref wl)]) F1 (by with_unfolding_all rfl)
  k_steps
  unfold Hold
  with_reducible rename News _ _ _ _ => N1
  cases ol with
  | nil =>
    k_dflt (refine' m_eqNil0 ?_ N1 (.tail _ hwl) (.head _) ?_; (case _ => ktr_units))
    k_steps
    all_goals exact ret _ _ _ _ (by assumption) (by assumption) ⟨_, rfl, fun p hp => .tail _ hp⟩
  | cons o ol =>
    k_dflt (refine' m_eqNil1 ?_ N1 (.tail _ hwl) (.head _) ?_; (case _ => ktr_units))
    k_steps
    unfold Hold
    with_reducible rename News _ _ _ _ => N2
    cases bls with
    | nil =>
      k_dflt (refine' m_eqNil0 ?_ N2 (.tail _ (.tail _ hbl)) (.head _) ?_; (case _ => ktr_units))
      k_steps
      all_goals exact ret _ _ _ _ (by assumption) (by assumption) ⟨_, rfl, fun p hp => .tail _ (.tail _ hp)⟩
    | cons b bls =>
      k_dflt (refine' m_eqNil1 ?_ N2 (.tail _ (.tail _ hbl)) (.head _) ?_; (case _ => ktr_units))
      k_steps
      unfold Hold
      k_dflt (refine' m_join N2 (.tail _ (.tail _ hwl)) rfl hj ?_)
      intro t9 k9
      k_steps
      all_goals exact ret _ _ _ _ (by assumption) (by assumption) ⟨_, rfl, fun p hp => .tail _ (.tail _ hp)⟩
end Mine

end
theorem Mine.top_offN7 : True := by w_top off; trivial
theorem Mine.turnN7 {M : Model} {A : Around} {env : Env} {Q : Flow → Shared → Prop} {E : Value → Shared → Prop} {s : Shared} (h : Q .next s) : wpAny M A (execs [] env) Q E s := by walk1; exact h
section
-- M12_mac
local macro_rules | `(tactic| walk_at "storeName") => `(tactic| (k_here; k_dflt (refine' Mine.m_storeC ?F ?N ?c ?m ?d ?_ ?a ?b; (case a => rfl); (case b => rfl); (case F => k_asm); (case N => k_asm); (case c => rfl); (case m => k_mem); (case d => assumption); k_whole; intro h9 o9 news9 F9 N9 m9 d9 s9)))

-- C4_words
local macro_rules | `(tactic| walk_at $k:str) => do
  if ["subscriptTail Name Name ref int", "subscriptTail"].contains k.getString then `(tactic| (k_here; (fail_if_success with_reducible show wpAny _ _ (subscriptTail _ _ (Value.ref 258) _) _ _ _); refine Mine.hold_ ?_)) else Lean.Macro.throwUnsupported
local macro_rules | `(tactic| walk_at "getMethod ref") => `(tactic| (k_here; (with_reducible show wpAny _ _ (getMethod (Value.ref _) (Str.ofString "get") _) _ _ _); refine Mine.hold_ ?_))
local macro_rules | `(tactic| walk_at $k:str) => do
  if ["exec Assign cons ListComp", "call builtin:dict.get cons nil", "subscriptTail Name Slice ref ref", "subscriptTail IfExp Compare Name Name Name ref int", "compareOp Eq ref ref"].contains k.getString then `(tactic| refine Mine.hold_ ?_) else Lean.Macro.throwUnsupported
namespace Mine
open PySem.Spec PyProof.V PySem.Calls

/-- the ledger bears the law's rows -/
def LRowsIn (news : List (Addr × Obj)) (vs : List Value) (R : List LRow) : Prop := vs.length = R.length ∧ ∀ (i : Nat) (r : LRow), R[i]? = some r → ∃ v, vs[i]? = some v ∧ LRowIn news v r

def WordsJ (w : World) (R : List LRow) (nm : Nat → Option Str) (B : List Str) (cs : List Nat) (base : List (Addr × Obj)) (fix : List (Addr × Obj)) (D : Addr) (i : Nat) (vals : List Value) (news : List (Addr × Obj)) : Prop :=
  vals = [] ∧ ∃ (ol : List (Str × Tok)) (n : Nat), (D, W.listOf (strValues ol).toArray n) ∈ news ∧ ol.length = i ∧ WBound cs (ol.map (·.1)) ∧ wordsOf nm B (R.drop i) (ol.map (·.1)) = wordsOf nm B R [] ∧ (∀ p ∈ base, p ∈ news) ∧ ∀ p ∈ fix, p ∈ news

theorem WordsJ.step {w : World} {R : List LRow} {nm : Nat → Option Str} {B : List Str} {cs : List Nat} {base fix news' : List (Addr × Obj)} {D I : Addr} {i n' : Nat} {ol : List (Str × Tok)} {r : LRow} {t : Str} {tk : Tok}
    (hdrop : R.drop i = r :: R.drop (i + 1)) (holl : ol.length = i) (hwh : WBound cs (ol.map (·.1))) (hwo : wordsOf nm B (R.drop i) (ol.map (·.1)) = wordsOf nm B R []) (hwl : (wordOf nm (ol.map (·.1)) B r).length + 10 ≤ 40 * cs.getD i 0)
    (hm : (D, W.listOf (strValues ol ++ [Value.str t tk]).toArray n') ∈ news') (ht : t = wordOf nm (ol.map (·.1)) B r) (hD : D ≠ I) (hb : ∀ p ∈ base, p ∈ news') (hbI : ∀ p ∈ base, p.1 ≠ I) (hf : ∀ p ∈ fix, p ∈ news') (hfI : ∀ p ∈ fix, p.1 ≠ I) :
    WordsJ w R nm B cs base fix D (i + 1) [] (offI I news') := by
  subst ht
  refine ⟨rfl, ol ++ [(_, tk)], n', mem_offI.mpr ⟨by rw [strValues, List.map_append]; exact hm, hD⟩, by simp [holl], ?_, ?_, fun p hp => mem_offI.mpr ⟨hb p hp, hbI p hp⟩, fun p hp => mem_offI.mpr ⟨hf p hp, hfI p hp⟩⟩
  · rw [List.map_append]
    exact wb_snoc hwh (by rw [List.length_map, holl]; exact hwl)
  · rw [hdrop] at hwo
    rw [List.map_append]
    exact hwo

theorem LRow.six {nm : Nat → Option Str} {here below : List Str} {cs : List Nat} {i : Nat} {r : LRow} (ok : RowOk cs i r) :
    (r.form = Str.ofString "word" ∧ r.num < 16 ∧ wordOf nm here below r = primWord r.num) ∨
    (r.form = Str.ofString "type" ∧ wordOf nm here below r = nameText nm r.num ++ listText (innerOf (srcOf here below) r.parts) below.isEmpty) ∨
    (r.form = Str.ofString "method" ∧ 0 < r.parts.length ∧ wordOf nm here below r = (((Str.ofString "method " ++ (innerOf (srcOf here below) r.parts).getD 0 (Str.ofString "")) ++ Str.ofString "::") ++ numText r.num) ++ listText ((innerOf (srcOf here below) r.parts).drop 1) below.isEmpty) ∨
    (r.form = Str.ofString "round" ∧ r.num < 5 ∧ ∃ x, r.parts = [x] ∧ wordOf nm here below r = (roundPre r.num ++ here.getD x (Str.ofString "")) ++ roundPost r.num) ∨
    ((r.form = Str.ofString "!" ∨ r.form = Str.ofString "!!") ∧ wordOf nm here below r = r.form ++ numText r.num) := by
  have hf := ok.fits
  cases r with
  | word n => exact .inl ⟨rfl, hf, rfl⟩
  | var n => exact .inr (.inr (.inr (.inr ⟨.inl rfl, rfl⟩)))
  | mvar n => exact .inr (.inr (.inr (.inr ⟨.inr rfl, rfl⟩)))
  | typ n ps => exact .inr (.inl ⟨rfl, rfl⟩)
  | meth n ps => exact .inr (.inr (.inl ⟨rfl, hf.1, rfl⟩))
  | round n x => exact .inr (.inr (.inr (.inl ⟨rfl, hf, x, rfl, rfl⟩)))
set_option maxHeartbeats 8000000 in
theorem c_words {w : World} {rowsA namesA belowA : Addr} {vs : List Value} {R : List LRow} {nm : Nat → Option Str} {bl : List (Str × Tok)} {n1 n2 : Nat} {cs : List Nat} (hnl : ∀ n t, nm n = some t → t.length ≤ 10)
    (hR : ∀ (i : Nat) (r : LRow), R[i]? = some r → RowOk cs i r) (hlen : R.length ≤ 1000) (hbl : bl = [] ∨ bl.length = R.length) (hwb : WBound cs (bl.map (·.1))) :
    Ctl w (.ref 295) [.ref rowsA, .ref namesA, .ref belowA] 8 200 (fun news => (rowsA, W.listOf vs.toArray n1) ∈ news ∧ LRowsIn news vs R ∧ NamesAt w news namesA nm ∧ (belowA, W.listOf (strValues bl).toArray n2) ∈ news)
      (fun news r news' => ∃ D ol n, r = .ref D ∧ (D, W.listOf (strValues ol).toArray n) ∈ news' ∧ ol.map (·.1) = wordsOf nm (bl.map (·.1)) R [] ∧ ∀ p ∈ news, p ∈ news') := by
  unfold Ctl
  k_fill
  intro dp un gd cn cs' a ccd cl outer A₀ base h₀ L m news s mean mg mb Q E B F X N T hk hpre hroom hunits ret
  have hrows := hpre.1
  have hrin := hpre.2.1
  have hnm := hpre.2.2.1
  have hbel := hpre.2.2.2
  clear hpre
  refine wpAny_call ?_
  k_dflt ((refine' code_defC ?k1 ?k2 ?k3 ?k4 ?k5 ?kA ?kF ?kK ?k6 ?k7 ?k8 ?k9 ?kB ?kD ?_ ?c2 ?c3 ?c4; (case kA => exact rfl); (case kF => exact rfl); (case kK => assumption); (case k1 => k_asm); (case k2 => k_asm); (case k3 => k_asm); (case k4 => k_asm); (case k5 => k_asm); (case k6 => k_is); (case k7 => k_is); (case k8 => ktr_room); (case k9 => exact BindsTo.of_eq rfl); (case kB => exact rfl); (case kD => decide +kernel); (case c2 => exact rfl); (case c3 => exact rfl); (case c4 => exact rfl); k_whole; intro _ _ _ _ _ _ _ _ _ _ _ _ _; (try dsimp only); (try k_fold)))
  with_reducible rename CellsAre _ _ _ => Y1
  refine hideG ?_
  intro P k9
  obtain ⟨o1, o2, hE, d1, d2⟩ := CellsAre.two Y1
  subst hE
  refine k9 ?_
  clear k9
  clear Y1
  with_reducible rename News _ _ _ _ => N1
  simp only [List.cons_append, List.nil_append] at N1
  replace d1 : o1.data = .cell none := d1
  replace d2 : o2.data = .cell (some (.ref belowA)) := d2
  with_reducible rename Fr _ _ _ _ => F1
  replace F1 := fr_of (fun y => if y = Str.ofString "names" then some (.ref namesA) else if y = Str.ofString "rows" then some (.ref rowsA) else none) F1 (by with_unfolding_all rfl)
  k_steps
  with_reducible rename Fr _ _ _ _ => F2
  with_unfolding_all refine' For_turns F2 ?_
  k_steps
  unfold Hold
  with_reducible rename (∀ p ∈ _ :: _ :: _ :: news, p.1 ≠ _ → _) => sA
  with_reducible rename (_ ∧ _ ∧ AllLt _ news) => hlt
  rename_i hH oH newsA N2 mH dH
  with_reducible rename ∀ p ∈ news, p.1 < _ => l1
  have hlt4 := tb_ltOf hlt.2.2
  have hnc : ∀ p ∈ news, p.1 ≠ _ := fun p hp => Nat.ne_of_lt (Nat.lt_succ_of_lt (Nat.lt_succ_of_lt (l1 p hp)))
  have hsub : ∀ p ∈ news, p ∈ newsA := fun p hp => sA p (.tail _ (.tail _ (.tail _ hp))) (hnc p hp)
  have hbc := sA _ (.tail _ (.tail _ (.head _))) (Nat.ne_of_lt (Nat.lt_succ_self _))
  have hDc := sA _ (.head _) (Nat.ne_of_gt hlt.1)
  refine m_turnL (x := Str.ofString "form") (lo := W.listOf vs.toArray n1) (vs := vs) (k := n1) [] [Str.ofString "form", Str.ofString "number", Str.ofString "parts", Str.ofString "inner", Str.ofString "text"] [] (WordsJ w R nm (bl.map (·.1)) cs news [(_, oH), (_, o2)] _) rfl rfl (hsub _ hrows) rfl rfl F2 N2
    ⟨rfl, [], 0, hDc, rfl, fun j hj => absurd hj (Nat.not_lt_zero j), rfl, hsub, fun p hp => by
      rcases List.mem_cons.mp hp with e | hp
      · rw [e]; exact mH
      · rw [List.mem_singleton.mp hp]; exact hbc⟩ (fun _ h => nomatch h) ?_ ?_
  · intro I i v it h tk vals u news₁ hI hv hic hoff hlm hJ F3 N3 K hK
    refine hideG ?_
    intro P k9
    obtain ⟨e9, ol, n3, hD, holl, hwh, hwo, hbase, hfix⟩ := hJ
    subst e9
    have hcH := hfix _ (.head _)
    have hcB := hfix _ (.tail _ (.head _))
    have hi : i < R.length := by rw [← hrin.1]; exact (List.getElem?_eq_some_iff.mp hv).1
    obtain ⟨v', hv', hrow⟩ := hrin.2 i R[i] (List.getElem?_eq_getElem hi)
    have hvv : v = v' := Option.some.inj (hv.symm.trans hv')
    have hok := hR i R[i] (List.getElem?_eq_getElem hi)
    have hdrop := List.drop_eq_getElem_cons hi
    generalize R[i] = r at hrow hok hdrop
    obtain ⟨ra, rb, ps, ta1, ta2, rn, rn', e8, hra, hrb, hints⟩ := hrow
    rw [e8] at hvv
    subst hvv
    have hsix := LRow.six (nm := nm) (here := ol.map (·.1)) (below := bl.map (·.1)) hok
    generalize hfm : r.form = fm at hra hsix
    generalize hnu : r.num = nu at hra hsix
    have hra1 := hbase _ hra
    have hrb1 := hbase _ hrb
    have hbel1 := hbase _ hbel
    refine k9 ?_
    clear k9 F2 N2 hv hv' hra e8
    k_steps
    unfold Hold
    with_reducible rename Fr _ _ _ _ => F4
    with_reducible rename News _ _ _ _ => N4
    refine m_compA F4 (G := fun q y => ∃ j t, r.parts[q]? = some j ∧ y = Value.str ((srcOf (ol.map (·.1)) (bl.map (·.1))).getD j (Str.ofString "")) t) (ax := rb) (its := ps.toArray) (k := rn') rfl (by with_unfolding_all rfl) (by with_unfolding_all rfl) (by decide) rfl (by decide) rfl rfl rfl rfl ?_
    walk1
    have hpl := LRow.parts_len hok.fits
    have hpl2 : ps.length = r.parts.length := by have := hints.length; rwa [zs, List.length_map] at this
    refine ⟨_, rfl, F4, N4, .tail _ hrb1, ?_, ?_, ?_⟩
    · rw [List.size_toArray, hpl2]; exact Nat.le_trans hpl (by decide)
    · intro q v2 I2 oI2 C2 oC2 D2 ys2 m2 h2 tk2 E2 hv2 hC2 hx2 F5 N5
      refine hideG ?_
      intro P k9
      obtain ⟨j, tj, hj, e9⟩ := ints_at hints (i := q) (v := v2) (by simpa using hv2)
      subst e9
      have hji := hok.parts j (List.mem_of_getElem? hj)
      have hj63 : ((j : Nat) : Int) < 2 ^ 63 := by omega
      by_cases hb0 : bl = []
      · obtain ⟨ty, hy⟩ := strs_at (ol := ol) (j := j) (by omega)
        have hbel2 : (belowA, W.listOf #[] n2) ∈ news₁ := by rw [hb0] at hbel1; exact hbel1
        have hsr : srcOf (ol.map (·.1)) (bl.map (·.1)) = ol.map (·.1) := by rw [hb0]; rfl
        refine k9 ?_
        clear F4 N4 k9 hv2
        k_steps
        unfold Hold
        with_reducible rename News _ _ _ _ => N6
        k_dflt (refine' m_eqNil0 ?_ N6 (by k_mem) (.head _) ?_; (case _ => ktr_units))
        k_steps
        unfold Hold
        with_reducible rename News _ _ _ _ => N7
        k_dflt (refine' m_itemL N7 (by k_mem) hy (Int.natCast_nonneg _) hj63 ?_)
        exact EltEnd.intro ⟨j, ty, hj, by rw [hsr]⟩ (by assumption) (by assumption) (by (intro p hp; solve_by_elim [mem_tail]))
      · obtain ⟨b, bl', eb⟩ := List.exists_cons_of_ne_nil hb0
        obtain ⟨ty, hy⟩ := strs_at (ol := bl) (j := j) (by rcases hbl with e | e <;> first | exact absurd e hb0 | omega)
        have hbel2 : (belowA, W.listOf ((.str b.1 b.2) :: strValues bl').toArray n2) ∈ news₁ := by rw [eb] at hbel1; exact hbel1
        have hsr : srcOf (ol.map (·.1)) (bl.map (·.1)) = bl.map (·.1) := by rw [eb]; rfl
        refine k9 ?_
        clear F4 N4 k9 hv2
        k_steps
        unfold Hold
        with_reducible rename News _ _ _ _ => N6
        k_dflt (refine' m_eqNil1 ?_ N6 (by k_mem) (.head _) ?_; (case _ => ktr_units))
        k_steps
        unfold Hold
        with_reducible rename News _ _ _ _ => N7
        k_dflt (refine' m_itemL N7 (by k_mem) hy (Int.natCast_nonneg _) hj63 ?_)
        exact EltEnd.intro ⟨j, ty, hj, by rw [hsr]⟩ (by assumption) (by assumption) (by (intro p hp; solve_by_elim [mem_tail]))
    · intro D3 ys3 h3 tk3 hl3 hys F6 N6 hnD
      have hwl := wordOf_len (here := ol.map (·.1)) (below := bl.map (·.1)) hnl (by rw [List.length_map, holl]; exact hok) hwh hwb (by
        rcases hbl with e | e
        · exact .inl (by rw [e]; rfl)
        · exact .inr (by rw [List.length_map, List.length_map]; omega))
      rw [List.length_map, holl] at hwl
      have hsz : (strValues ol).length ≤ 16384 := by rw [strValues, List.length_map]; omega
      walk1
      refine midT (Str.ofString "text") (wordOf nm (ol.map (·.1)) (bl.map (·.1)) r) F6 N6 ?_ ?_
      · intro tk4 h4 k4 news4 F7 N7 s7
        k_steps
        unfold Hold
        k_dflt (refine' m_append ?F ?N (s7 _ (.tail _ (.tail _ hD))) hsz ?_; (case F => k_asm); (case N => k_asm))
        intro h9 news9 F9 N9 m9 s9
        k_steps
        unfold Hold KP
        have hDI := Nat.ne_of_lt (hI _ hDc)
        have hfD := two_ne (o := oH) (o' := o2) (Nat.ne_of_lt hlt.1) (Nat.ne_of_lt hlt.2.1)
        have hn9 : ∀ p ∈ news, p ∈ news9 := fun p hp => s9 p (s7 p (.tail _ (.tail _ (hbase p hp)))) (Nat.ne_of_lt (hlt4 p hp))
        exact hK .next _ (MEnd.of F9 N9 (s9 _ (s7 _ (.tail _ (.head _))) (Nat.ne_of_gt (hI _ hDc))) (fun p hp => by rw [List.mem_singleton.mp hp]; exact hn9 _ hrows) rfl (fun z g1 g2 g3 => by
            simp only [List.contains_cons, List.contains_nil, Bool.or_false, Bool.or_eq_false_iff, beq_eq_false_iff_ne] at g2
            simp [g2, setN])
          (WordsJ.step hdrop holl hwh hwo hwl m9 rfl hDI hn9 (fun p hp => hoff p (hbase p hp)) (fun p hp => s9 p (s7 p (.tail _ (.tail _ (hfix p hp)))) (hfD p hp)) (fun p hp => hoff p (hfix p hp))))
      · intro K2 hK2
        have hn1000 : nu < 1000 := hnu ▸ hok.num
        have hnt := numText_len hn1000
        have hsrc : ∀ j ∈ r.parts, j < (srcOf (ol.map (·.1)) (bl.map (·.1))).length := fun j hj => src_len (i := i) (by rw [List.length_map]; omega) (by
          rcases hbl with e | e
          · exact .inl (by rw [e]; rfl)
          · exact .inr (by rw [List.length_map]; omega)) (hok.parts j hj)
        have hsb := src_bound hwh hwb
        refine hideG ?_
        intro P k9
        obtain ⟨il, e1, e2⟩ := inner_vals (src := srcOf (ol.map (·.1)) (bl.map (·.1))) (ps := r.parts) (by rw [hl3, List.size_toArray, hpl2]) hys
        subst e1
        have hbe : (bl.map (·.1)).isEmpty = bl.isEmpty := by cases bl <;> rfl
        have hct := hok.cost
        have hsm := hok.small
        have hij := inner_join hsb hsrc (by omega)
        have hLT := inner_listText hsb hsrc (by omega) bl.isEmpty
        clear F4 N4
        rcases hsix with ⟨e, hn16, ew⟩ | ⟨e, ew⟩ | ⟨e, hp0, ew⟩ | ⟨e, hn5, x, ex, ew⟩ | ⟨e, ew⟩
        · subst e
          refine k9 ?_
          clear k9
          k_steps
          unfold Hold KP
          rw [ew] at hK2
          with_reducible rename Fr _ _ _ _ => F9
          with_reducible rename News _ _ _ _ => N9
          exact hK2 _ (TxtEnd.mk F9 N9 fun _ hp => hp)
        · have hT1 : (Str.ofString "T").length + (numText nu).length ≤ 16777216 := by rw [show (Str.ofString "T").length = 1 by decide +kernel]; omega
          have hT2 : (nameText nm nu).length + (listText (il.map (·.1)) bl.isEmpty).length ≤ 16777216 := by
            rw [e2]; exact Nat.le_trans (Nat.add_le_add (nameText_len hnl hn1000) hLT) (by decide)
          subst e
          refine k9 ?_
          clear k9
          k_steps
          unfold Hold
          with_reducible rename News _ _ _ _ => N7
          k_dflt (refine' m_namesMethod N7 (hnm.mono fun p hp => by k_mem) ?_)
          k_steps
          unfold Hold
          with_reducible rename News _ _ _ _ => N8
          k_dflt (refine' m_namesGet N8 (hnm.mono fun p hp => by k_mem) rfl ?_)
          intro t9
          k_steps
          unfold Hold
          with_reducible rename Fr _ _ _ _ => F9
          with_reducible rename News _ _ _ _ => N9
          rw [← e2] at hij
          k_dflt (refine' Ctl.u1 (c_list (n1 := (strValues il).length) (n2 := n2) hij.1 hij.2) ?B F9 ?X N9 ?T ?hk ?hp ?d ?u ?_; (case B => k_asm); (case X => k_asm); (case T => k_asm); (case hk => exact rfl); (case d => ktr_room); (case u => ktr_units); (case hp => exact ⟨.head _, .tail _ (.tail _ hbel1)⟩))
          intro t10 h10 tk10 news10 F10 N10 s10
          k_steps
          unfold Hold KP
          rw [ew, ← e2, hbe] at hK2
          with_reducible rename Fr _ _ _ _ => F11
          with_reducible rename News _ _ _ _ => N11
          exact hK2 _ (TxtEnd.mk F11 N11 s10)
        · subst e
          rw [← e2] at ew hLT
          cases il with
          | nil => exact absurd (congrArg List.length e2) (by rw [inner_len]; exact fun e => absurd hp0 (by rw [← e]; exact Nat.lt_irrefl _))
          | cons x0 il =>
          obtain ⟨hx0, hjA, hjB, hjC⟩ := inner_head hsb hsrc (by omega) (t := x0.1) (ts := il.map (·.1)) (show x0.1 :: il.map (·.1) = _ from e2)
          have hjD := hjC bl.isEmpty
          have hjZ : (Value.str x0.1 x0.2 :: strValues il).length ≤ 16384 := by
            have h3 := congrArg List.length e2
            rw [inner_len, List.length_map, List.length_cons] at h3
            rw [List.length_cons, strValues, List.length_map]
            exact Nat.le_trans (h3 ▸ hpl) (by decide)
          have hT1 : (Str.ofString "method ").length + x0.1.length ≤ 16777216 := by rw [l_meth]; omega
          have hT2 : (Str.ofString "method " ++ x0.1).length + (Str.ofString "::").length ≤ 16777216 := by rw [len_app, l_meth, l_col]; omega
          have hT3 : ((Str.ofString "method " ++ x0.1) ++ Str.ofString "::").length + (numText nu).length ≤ 16777216 := by rw [len_app, len_app, l_meth, l_col]; omega
          have hT4 : (((Str.ofString "method " ++ x0.1) ++ Str.ofString "::") ++ numText nu).length + (listText (il.map (·.1)) bl.isEmpty).length ≤ 16777216 := by rw [len_app, len_app, len_app, l_meth, l_col]; omega
          refine k9 ?_
          clear k9
          k_steps
          unfold Hold
          k_dflt (refine' m_itemL N6 (.head _) (x := .str x0.1 x0.2) (k := 0) rfl (Int.le_refl 0) (by decide) ?_)
          k_steps
          unfold Hold
          k_dflt (refine' m_slice1 (v := .str x0.1 x0.2) (vs := strValues il) ?sF ?sN (.head _) ?sz ?_ ?ss ?st; (case sF => k_asm); (case sN => k_asm); (case ss => with_unfolding_all rfl); (case st => kmk_pure); (case sz => exact hjZ))
          intro D9 h9 F9 N9 l9
          k_steps
          unfold Hold
          k_dflt (refine' Ctl.u1 (c_list (n1 := 0) (n2 := n2) hjA hjB) ?B F9 ?X N9 ?T ?hk ?hp ?d ?u ?_; (case B => k_asm); (case X => k_asm); (case T => k_asm); (case hk => exact rfl); (case d => ktr_room); (case u => ktr_units); (case hp => exact ⟨.head _, .tail _ (.tail _ (.tail _ hbel1))⟩))
          intro t10 h10 tk10 news10 F10 N10 s10
          k_steps
          unfold Hold KP
          rw [ew, hbe] at hK2
          with_reducible rename Fr _ _ _ _ => F11
          with_reducible rename News _ _ _ _ => N11
          exact hK2 _ (TxtEnd.mk F11 N11 fun p hp => s10 p (.tail _ hp))
        · obtain ⟨aR, w1, w2, hAt⟩ := rd_at hn5
          rw [ex] at hints
          obtain ⟨tx, r', eps, h'⟩ := hints.cons_inv
          have er' : r' = [] := by cases h'; rfl
          subst er'
          subst eps
          have hxi : x < i := hok.parts x (by rw [ex]; exact .head _)
          obtain ⟨ty, hy⟩ := strs_at (ol := ol) (j := x) (by omega)
          have hwx := hwh x (by rw [List.length_map]; omega)
          have hrp := roundPre_len nu
          have hrq := roundPost_len nu
          have hT1 : (roundPre nu).length + ((ol.map (·.1)).getD x (Str.ofString "")).length ≤ 16777216 := by rw [ex] at hct; simp only [costOf, List.map_cons, List.map_nil, List.sum_cons, List.sum_nil] at hct; omega
          have hT2 : (roundPre nu ++ (ol.map (·.1)).getD x (Str.ofString "")).length + (roundPost nu).length ≤ 16777216 := by rw [ex] at hct; simp only [costOf, List.map_cons, List.map_nil, List.sum_cons, List.sum_nil] at hct; rw [len_app]; omega
          subst e
          refine k9 ?_
          clear k9
          with_reducible rename (hd.heap_1 w.params).In _ => X9
          k_steps
          unfold Hold
          with_reducible rename Fr _ _ _ _ => F9
          k_dflt (refine' m_itemAt (rd_top (X9.keeps F9.keep)) (x := .ref aR) hAt.at (Int.natCast_nonneg _) (by omega) ?_)
          k_steps
          unfold Hold
          k_dflt (refine' m_itemAt (hAt.tup (X9.keeps F9.keep)) (x := .str (roundPre nu) w1) (k := 0) rfl (Int.le_refl 0) (by decide) ?_)
          k_steps
          unfold Hold
          k_dflt (refine' m_itemTup N6 (.tail _ (.tail _ hrb1)) (x := .int (x : Int) tx) (k := 0) rfl (Int.le_refl 0) (by decide) ?_)
          k_steps
          unfold Hold
          k_dflt (refine' m_itemL N6 (.tail _ (.tail _ hD)) hy (Int.natCast_nonneg _) (by omega) ?_)
          k_steps
          unfold Hold
          k_dflt (refine' m_itemAt (rd_top (X9.keeps F9.keep)) (x := .ref aR) hAt.at (Int.natCast_nonneg _) (by omega) ?_)
          k_steps
          unfold Hold
          k_dflt (refine' m_itemAt (hAt.tup (X9.keeps F9.keep)) (x := .str (roundPost nu) w2) (k := 1) rfl (by decide) (by decide) ?_)
          k_steps
          unfold Hold KP
          rw [ew] at hK2
          with_reducible rename Fr _ _ _ _ => F11
          with_reducible rename News _ _ _ _ => N11
          exact hK2 _ (TxtEnd.mk F11 N11 fun _ hp => hp)
        · rcases e with e | e
          all_goals
            have hT1 : fm.length + (numText nu).length ≤ 16777216 := by rw [e]; (first | rw [l_bang] | rw [l_bang2]); omega
            subst e
            refine k9 ?_
            clear k9
            k_steps
            unfold Hold KP
            rw [ew] at hK2
            with_reducible rename Fr _ _ _ _ => F9
            with_reducible rename News _ _ _ _ => N9
            exact hK2 _ (TxtEnd.mk F9 N9 fun _ hp => hp)
  · intro vals u news₁ h tk hJ hlm F3 N3
    refine hideG ?_
    intro P k9
    obtain ⟨_, ol, n3, hD, holl, hwh, hwo, hbase, hfix⟩ := hJ
    rw [hrin.1, List.drop_length] at hwo
    have hcH := hfix _ (.head _)
    refine k9 ?_
    clear k9 F2 N2
    k_steps
    all_goals (exact ret _ _ _ _ (by assumption) (by assumption) ⟨_, ol, n3, rfl, hD, hwo, hbase⟩)
end Mine

end
theorem Mine.top_offN8 : True := by w_top off; trivial
theorem Mine.turnN8 {M : Model} {A : Around} {env : Env} {Q : Flow → Shared → Prop} {E : Value → Shared → Prop} {s : Shared} (h : Q .next s) : wpAny M A (execs [] env) Q E s := by walk1; exact h
section
-- D1_names
namespace Mine
open PySem.Spec PyProof.V PySem.Calls

section
variable {w : World} {A : Around} {E : Value → Shared → Prop} {s : Shared} {h₀ : Heap} {L d : Addr} {m : Str → Option Value} {news : List (Addr × Obj)}
theorem m_setInt {hp1 : Heap} {tk1 : Nat} {k : Int} {u : Tok} {t : Str} {tt : Tok} {o : Obj} {kvs : List (Int × Value)} {D : List (PyData × PyData)} {Q : Unit → Shared → Prop} (F : Fr h₀ L hp1 m) (N : News h₀ L hp1 news) (hm : (d, o) ∈ news)
    (hd : o.IsDictOf (intKind PP w) kvs) (hf : FlatPairs PyData.int kvs D) (hz : D.length ≤ 16384)
    (h : ∀ h' o' news', Fr h₀ L h' m → News h₀ L h' news' → (d, o') ∈ news' → o'.IsDictOf (intKind PP w) (stored kvs k (.str t tt)) → FlatPairs PyData.int (stored kvs k (.str t tt)) (putD (PyData.int k) (.str t) D) → (∀ p ∈ news, p.1 ≠ d → p ∈ news') →
      Q () { s with heap := h', toks := tk1 + 1 }) : wpAny (model PP w) A (setItem (.ref d) (.int k u) (.str t tt)) Q E { s with heap := hp1, toks := tk1 } := by
  have z := N _ hm
  refine wpAny_setItem_pairs (hsz := by rw [← hf.length]; have : sizeLine = 16777216 := rfl; omega) (intKind_is PP w k u) (Heap.dictOf_iff.mpr ⟨o, z.1, hd⟩) fun h' hmm hs => ?_
  obtain ⟨o', ho', hd'⟩ := Heap.dictOf_iff.mp hmm
  exact h h' o' (news.map fun p => if p.1 = d then (d, o') else p) (F.change hs z.2.1 z.2.2) (N.replace hs ho') (List.mem_map.mpr ⟨_, hm, by simp⟩) hd' (hf.stored same_int k (Flat.str t tt)) fun p hp hne => List.mem_map.mpr ⟨p, hp, by simp [hne]⟩
end

def nameWord (k : Nat) : Str := ([Str.ofString "A", Str.ofString "B.C", Str.ofString "", Str.ofString "T65", Str.ofString "int"] : List Str).getD k (Str.ofString "")
/-- the law's names -/
def nmOf (ns : List Nat) (turn : Nat) (n : Nat) : Option Str := if n ∈ ns ∧ (n + turn) % 3 > 0 then some (nameWord ((n + turn) % 5)) else none

theorem nameWord_len (k : Nat) : (nameWord k).length ≤ 10 := by
  unfold nameWord
  rcases k with _ | _ | _ | _ | _ | k <;> first | decide +kernel | (simp [l_nil])
theorem nmOf_len (ns : List Nat) (turn : Nat) : ∀ n t, nmOf ns turn n = some t → t.length ≤ 10 := by
  intro n t h
  unfold nmOf at h
  split at h
  · cases h; exact nameWord_len _
  · cases h

def NamesJ (w : World) (ns : List Nat) (turn : Nat) (base : List (Addr × Obj)) (d : Addr) (i : Nat) (vals : List Value) (news : List (Addr × Obj)) : Prop :=
  vals = [] ∧ ∃ o kvs D, (d, o) ∈ news ∧ o.IsDictOf (intKind PP w) kvs ∧ FlatPairs PyData.int kvs D ∧ D.length ≤ i ∧ (∀ n : Nat, PySem.Spec.lookup (PyData.int (n : Int)) D = (nmOf (ns.take i) turn n).map PyData.str) ∧ ∀ p ∈ base, p ∈ news

theorem names_put {ns : List Nat} {turn i n : Nat} {D : List (PyData × PyData)} (hi : ns[i]? = some n) (hp : (n + turn) % 3 > 0) (h : ∀ k : Nat, PySem.Spec.lookup (PyData.int (k : Int)) D = (nmOf (ns.take i) turn k).map PyData.str) :
    ∀ k : Nat, PySem.Spec.lookup (PyData.int (k : Int)) (putD (PyData.int (n : Int)) (.str (nameWord ((n + turn) % 5))) D) = (nmOf (ns.take (i + 1)) turn k).map PyData.str := by
  intro k
  have ht : ns.take (i + 1) = ns.take i ++ [n] := by rw [List.take_add_one, hi]; rfl
  by_cases e : k = n
  · subst e
    rw [lookup_putK_same keyEnc_int]
    unfold nmOf
    rw [if_pos ⟨by rw [ht]; simp, hp⟩]
    rfl
  · rw [lookup_putK_other keyEnc_int (by omega), h k]
    unfold nmOf
    rw [ht]
    have : (k ∈ ns.take i ++ [n]) ↔ k ∈ ns.take i := by simp [e]
    simp only [this]
theorem names_skip {ns : List Nat} {turn i n : Nat} (hi : ns[i]? = some n) (hp : ¬ (n + turn) % 3 > 0) (k : Nat) : nmOf (ns.take (i + 1)) turn k = nmOf (ns.take i) turn k := by
  have ht : ns.take (i + 1) = ns.take i ++ [n] := by rw [List.take_add_one, hi]; rfl
  unfold nmOf
  rw [ht]
  by_cases e : k = n
  · subst e
    rw [if_neg (fun q => hp q.2), if_neg (fun q => hp q.2)]
  · have : (k ∈ ns.take i ++ [n]) ↔ k ∈ ns.take i := by simp [e]
    simp only [this]
theorem name_at {t k : Nat} (h : k < 5) : ([Value.str (Str.ofString "A") t, .str (Str.ofString "B.C") (t + 1), .str (Str.ofString "") (t + 1 + 1), .str (Str.ofString "T65") (t + 1 + 1 + 1), .str (Str.ofString "int") (t + 1 + 1 + 1 + 1)] : List Value)[k]? = some (.str (nameWord k) (t + k)) :=
  match k, h with
  | 0, _ => rfl
  | 1, _ => rfl
  | 2, _ => rfl
  | 3, _ => rfl
  | 4, _ => rfl
  | n + 5, h => absurd h (Nat.not_lt.mpr (Nat.le_add_left 5 n))
end Mine

-- D2_names
local macro_rules | `(tactic| walk_at $k:str) => do
  if ["subscriptTail Name BinOp ref int", "subscriptTail", "setItem ref int"].contains k.getString then `(tactic| refine Mine.hold_ ?_) else Lean.Macro.throwUnsupported
namespace Mine
open PySem.Spec PyProof.V PySem.Calls
set_option maxHeartbeats 8000000 in
theorem c_names {w : World} {numsA : Addr} {vs : List Value} {ns : List Nat} {turn : Nat} {tt : Tok} {n1 : Nat} (hi : IntsAre vs (zs ns)) (hlen : ns.length ≤ 1000) (ht : turn ≤ 100) (hs : ∀ n ∈ ns, n < 100000) :
    Ctl w (.ref 302) [.ref numsA, .int turn tt] 5 100 (fun news => (numsA, W.listOf vs.toArray n1) ∈ news)
      (fun news r news' => ∃ D, r = .ref D ∧ NamesAt w news' D (nmOf ns turn) ∧ ∀ p ∈ news, p ∈ news') := by
  unfold Ctl
  k_fill
  intro dp un gd cn cs' a ccd cl outer A₀ base h₀ L m news s mean mg mb Q E B F X N T hk hnums hroom hunits ret
  refine wpAny_call ?_
  k_dflt ktr_enter
  refine tok0 (s := s) rfl ?_
  intro k0
  with_reducible rename Fr _ _ _ _ => F1
  replace F1 := fr_of (fun y => List.lookup y [(Str.ofString "turn", Value.int turn tt), (Str.ofString "numbers", Value.ref numsA)]) F1 (by with_unfolding_all rfl)
  k_steps
  with_reducible rename Fr _ _ _ _ => F1
  with_unfolding_all refine' For_invVF F1 rfl rfl ?_
  k_steps
  unfold Hold
  with_reducible rename ∀ p ∈ news, p.1 < _ => l1
  with_reducible rename Obj.IsDictOf (intKind _ _) _ _ => hi1
  with_reducible rename FlatPairs PyData.int _ _ => fi1
  with_reducible rename (_ == sysModules) = false => lo1
  with_reducible rename News _ _ _ _ => N1
  with_reducible rename Fr _ _ _ _ => F1
  have hat := fun i v (hv : vs[i]? = some v) => ints_at hi hv
  have hil := hi.length
  simp only [zs, List.length_map] at hil
  with_reducible rename IntsAre _ _ => hints
  refine m_forL (x := Str.ofString "n") (lo := W.listOf vs.toArray n1) (vs := vs) (k := n1) [] [] [] (NamesJ w ns turn news _) rfl (.tail _ hnums) rfl rfl F1 N1 ⟨rfl, _, [], [], .head _, hi1, fi1, Nat.le_refl _, fun n => by simp [nmOf, PySem.Spec.lookup], fun p hp => .tail _ hp⟩ (fun _ h => nomatch h) ?_ ?_
  · intro I i v it h tk vals u news₁ hI hv hic hoff hlm hJ F2 N2 K hK
    refine hideG ?_
    intro P k9
    obtain ⟨e9, o, kvs, D, hd, hd1, hd2, hdl, hlk, hbase⟩ := hJ
    obtain ⟨n, ta, ha, e8⟩ := hat i v hv
    subst e9 e8
    have hn := hs n (List.mem_of_getElem? ha)
    have hiln := (List.getElem?_eq_some_iff.mp ha).1
    have hId := Nat.ne_of_gt (hI _ (.head _))
    have hnd := fun p hp => Nat.ne_of_lt (l1 p hp)
    by_cases hp : (n + turn) % 3 > 0
    · have hp' : ((n : Int) + (turn : Int)) % 3 > 0 := by omega
      have e5 : ((n : Int) + (turn : Int)).fmod 5 = (((n + turn) % 5 : Nat) : Int) := by rw [Int.fmod_eq_emod_of_nonneg _ (by decide)]; omega
      have hz : D.length ≤ 16384 := by omega
      refine k9 ?_
      clear F1 N1 hv fi1 hi1 k9
      k_steps
      unfold Hold
      with_reducible rename Fr _ _ _ _ => F3
      with_reducible rename FlatPairs PyData.int _ D => hd2
      with_reducible rename News _ _ _ _ => N3
      refine m_itemTup N3 (.head _) (vs := [Value.str (Str.ofString "A") tk, .str (Str.ofString "B.C") (tk+1), .str (Str.ofString "") (tk+1+1), .str (Str.ofString "T65") (tk+1+1+1), .str (Str.ofString "int") (tk+1+1+1+1)]) (n := 0) (x := .str (nameWord ((n + turn) % 5)) (tk + (n + turn) % 5)) (by rw [e5]; exact name_at (Nat.mod_lt _ (by decide))) (by rw [e5]; exact Int.natCast_nonneg _) (by rw [e5]; exact n63 (Nat.mod_lt _ (by decide)) rfl) ?_
      k_steps
      unfold Hold
      k_dflt (refine' m_setInt F3 N3 (.tail _ (.tail _ hd)) hd1 hd2 hz ?_)
      intro h9 o9 news9 F9 N9 m9 hd9 hf9 s9
      k_steps
      unfold Hold KP
      exact hK .next _ (MEnd.of F9 N9 (s9 _ (.tail _ (.head _)) hId) (fun p hp => by rw [List.mem_singleton.mp hp]; exact s9 _ (.tail _ (.tail _ hlm)) (hnd _ hnums)) rfl (fun z g1 _ _ => by simp only [if_neg g1]; rfl) ⟨rfl, _, _, _, mem_offI.mpr ⟨m9, hId.symm⟩, hd9, hf9, Nat.le_trans (putD_length_le _ _ D) (Nat.succ_le_succ hdl), names_put ha hp hlk, fun p hp => mem_offI.mpr ⟨s9 _ (.tail _ (.tail _ (hbase p hp))) (hnd p hp), hoff p (hbase p hp)⟩⟩)
    · have hp' : ¬ ((n : Int) + (turn : Int)) % 3 > 0 := by omega
      refine k9 ?_
      clear F1 N1 hv fi1 hi1 k9
      k_steps
      unfold Hold KP
      exact hK .next _ (MEnd.of (by assumption) N2 (.head _) (fun p hp => by rw [List.mem_singleton.mp hp]; exact .tail _ hlm) rfl (fun z g1 _ _ => by simp only [if_neg g1]; rfl) ⟨rfl, _, _, _, mem_offI.mpr ⟨.tail _ hd, hId.symm⟩, hd1, hd2, Nat.le_succ_of_le hdl, fun k => by rw [names_skip ha hp]; exact hlk k, fun p hp => mem_offI.mpr ⟨.tail _ (hbase p hp), hoff p (hbase p hp)⟩⟩)
  · intro vals u news₁ h tk hJ hlm F2 N2
    refine hideG ?_
    intro P k9
    obtain ⟨_, o, kvs, D, hd, hd1, hd2, hdl, hlk, hbase⟩ := hJ
    rw [hil, List.take_length] at hlk
    refine k9 ?_
    clear F1 N1 k9
    k_steps
    all_goals (exact ret _ _ _ _ (by assumption) (by assumption) ⟨_, rfl, ⟨lo1, o, kvs, D, hd, hd1, hd2, hlk⟩, hbase⟩)
end Mine

end
theorem Mine.top_offN9 : True := by w_top off; trivial
theorem Mine.turnN9 {M : Model} {A : Around} {env : Env} {Q : Flow → Shared → Prop} {E : Value → Shared → Prop} {s : Shared} (h : Q .next s) : wpAny M A (execs [] env) Q E s := by walk1; exact h
section
-- E1_rowkey
namespace Mine
open PySem PySem.Spec PyProof.V
abbrev KX := Int ⊕ List Int

section
variable {prog : Program} {w : World}

inductive ItemsX (prog : Program) (w : World) (h : Heap) : List KX → List Value → Prop
  | nil : ItemsX prog w h [] []
  | int {k : Int} {t : Tok} {ks : List KX} {vs : List Value} : ItemsX prog w h ks vs → ItemsX prog w h (.inl k :: ks) (.int k t :: vs)
  | tup {z : List Int} {b : Addr} {ks : List KX} {vs : List Value} : IsTupleKey (intKind prog w) h z b → ItemsX prog w h ks vs → ItemsX prog w h (.inr z :: ks) (.ref b :: vs)

def shp (s : Int) : List Bool := if s = 3 then [true, false] else if s = 10 then [true, true, false] else [true]
def Shp (ks : List KX) : Prop := ∃ s r, ks = .inl s :: r ∧ r.map Sum.isLeft = shp s

def IsRowKey (prog : Program) (w : World) (h : Heap) (ks : List KX) (a : Addr) : Prop := Shp ks ∧ ∃ o items n, h.get? a = some o ∧ o.cls = .type "tuple" ∧ o.data = .seq items n ∧ ItemsX prog w h ks items.toList

theorem ItemsX.inj {h : Heap} {x y : List KX} {vs : List Value} (hx : ItemsX prog w h x vs) (hy : ItemsX prog w h y vs) : x = y := by
  induction hx generalizing y with
  | nil => cases hy; rfl
  | int _ ih => cases hy with | int h2 => rw [ih h2]
  | tup h1 _ ih => cases hy with | tup h2 h3 => rw [ih h3, h1.inj h2]

theorem IsRowKey.inj {h : Heap} {a : Addr} {x y : List KX} (hx : IsRowKey prog w h x a) (hy : IsRowKey prog w h y a) : x = y := by
  obtain ⟨_, o, items, n, ho, _, hd, hi⟩ := hx
  obtain ⟨_, o', items', n', ho', _, hd', hi'⟩ := hy
  obtain rfl : o = o' := Option.some.inj (ho.symm.trans ho')
  rw [hd] at hd'
  injection hd' with h1 _
  subst h1
  exact hi.inj hi'

theorem ItemsX.keeps {h h' : Heap} {ks : List KX} {vs : List Value} {d : Addr} {o : Obj} {es ep} (x : ItemsX prog w h ks vs) (ho : h.get? d = some o) (hd : o.data = .dict es ep) (hs : Heap.SameBut d h h') : ItemsX prog w h' ks vs := by
  induction x with
  | nil => exact .nil
  | int _ ih => exact .int ih
  | tup h1 _ ih => exact .tup (h1.keeps ho hd hs) ih

theorem IsRowKey.keeps {h h' : Heap} {ks : List KX} {a d : Addr} {o : Obj} {es ep} (x : IsRowKey prog w h ks a) (ho : h.get? d = some o) (hd : o.data = .dict es ep) (hs : Heap.SameBut d h h') : IsRowKey prog w h' ks a := by
  obtain ⟨sh, o', items, n, ho', hc, hd', hi⟩ := x
  have hne : a ≠ d := by
    rintro rfl
    obtain rfl : o' = o := Option.some.inj (ho'.symm.trans ho)
    rw [hd] at hd'; exact nomatch hd'
  exact ⟨sh, o', items, n, (hs.2 a hne).trans ho', hc, hd', hi.keeps ho hd hs⟩

def hashX (prog : Program) (w : World) : KX → Int
  | .inl k => (intKind prog w).hash k
  | .inr z => tupleKeyHash (intKind prog w) z
def drawX : KX → Nat
  | .inl _ => 1
  | .inr z => z.length + 1
def rowHash (prog : Program) (w : World) (ks : List KX) : Int := reduceHash (Builtin.Tuple.tupleHashOf (ks.map (hashX prog w)))
def rowDraws (ks : List KX) : Nat := (ks.map drawX).sum + 1

variable {A : Around} {E : Value → Shared → Prop} {s : Shared}
theorem IsRowKey.typeIs {ks : List KX} {a : Addr} (x : IsRowKey prog w s.heap ks a) : s.TypeIs (.ref a) "tuple" := by
  obtain ⟨_, o, _, _, ho, hc, _⟩ := x
  exact ⟨o, ho, hc⟩

theorem row_pyHash {ks : List KX} {a : Addr} {Q : Int → Shared → Prop} (hu : A.units + 1 < cLine) (hk : IsRowKey prog w s.heap ks a) (h : Q (rowHash prog w ks) { s with toks := s.toks + rowDraws ks }) :
    wpAny (model prog w) A (pyHash (.ref a)) Q E s := by
  have hT := hk.typeIs
  obtain ⟨_, o, items, n, ho, _, hd, hi⟩ := hk
  unfold pyHash
  first | unfold pyHashByItsType | skip
  first | refine wpAny_bind (wpAny_cRoomFor_or (.inr (Nat.lt_of_succ_lt hu)) ?_) | skip
  refine wpAny_bind (wpAny_specialOf hT F.slot_tuple_hash.lookup ?_)
  show wpAny _ _ (if (some (Value.builtin "tuple.__hash__") == some Value.none) = true then _ else _) Q E s
  rw [if_neg (by rw [beq_builtin_none]; exact Bool.false_ne_true)]
  refine wpAny_bind (wpAny_specialOf hT F.slot_tuple_hash.lookup ?_)
  show wpAny _ _ (callSpecialIfBoundUnlessNone? (.ref a) "__hash__" _ >>= _) Q E s
  refine wpAny_bind (wpAny_callSpecialIfBoundUnlessNone?_slot hT F.slot_tuple_hash (wpAny_call_entry F.slot_tuple_hash hT F.entry_tuple_hash ?_ (F.args_tuple_hash_1 _)))
  show wpAny _ _ (Builtin.Tuple.tupleItemsOf (.ref a) >>= _) _ _ s
  refine wpAny_bind (wpAny_tupleItemsOf ho hd ?_)
  refine wpAny_bind ?_
  rw [← Array.forIn_toList]
  refine wpAny_forIn_list _
    (fun rest (b : Array Int) s' => ∃ done left, ks = done ++ left ∧ ItemsX prog w s.heap left rest ∧ b.toList = done.map (hashX prog w) ∧ s' = { s with toks := s.toks + (done.map drawX).sum })
    _ ?_ ?_ _ _ ⟨[], ks, rfl, hi, rfl, rfl⟩
  · rintro x rest b s' ⟨done, left, rfl, hl, hb, rfl⟩
    cases hl with
    | @int k t ks' _ hl' =>
      refine wpAny_bind ((intKind prog w).pyHash (intKind_is prog w k t) ?_)
      first
        | exact wpAny_pure ⟨done ++ [.inl k], ks', by simp, hl', by simp [hb, hashX], by simp [Nat.add_assoc, drawX]⟩
        | exact wpAny_bind (wpAny_pure (wpAny_pure ⟨done ++ [.inl k], ks', by simp, hl', by simp [hb, hashX], by simp [Nat.add_assoc, drawX]⟩))
    | @tup z b' ks' _ h1 hl' =>
      refine wpAny_bind (wpAny_pyHash_tuple (A := A.in1) (knd := intKind prog w) (ks := z) hu h1 ?_)
      first
        | exact wpAny_pure ⟨done ++ [.inr z], ks', by simp, hl', by simp [hb, hashX], by simp [Nat.add_assoc, drawX]⟩
        | exact wpAny_bind (wpAny_pure (wpAny_pure ⟨done ++ [.inr z], ks', by simp, hl', by simp [hb, hashX], by simp [Nat.add_assoc, drawX]⟩))
  · rintro b s' ⟨done, left, rfl, hl, hb, rfl⟩
    cases hl
    rw [List.append_nil] at h
    show wpAny _ _ (retInt (Builtin.Tuple.tupleHashOf b.toList)) _ _ _
    rw [hb]
    refine wpAny_ret_mkInt ?_
    show wpAny _ _ (if (decide (-(2 : Int) ^ 63 ≤ Builtin.Tuple.tupleHashOf (done.map (hashX prog w))) && decide (Builtin.Tuple.tupleHashOf (done.map (hashX prog w)) < 2 ^ 63)) = true then _ else _) Q E _
    unfold rowHash reduceHash at h
    by_cases hr : (decide (-(2 : Int) ^ 63 ≤ Builtin.Tuple.tupleHashOf (done.map (hashX prog w))) && decide (Builtin.Tuple.tupleHashOf (done.map (hashX prog w)) < 2 ^ 63)) = true
    · rw [if_pos hr]
      rw [if_pos hr] at h
      exact wpAny_pure (by simpa [Nat.add_assoc, rowDraws] using h)
    · rw [if_neg hr]
      rw [if_neg hr] at h
      exact wpAny_bind (wpAny_rule (wpAny_pure (by simpa [Nat.add_assoc, rowDraws] using h)))

theorem row_eq_tree {x y : List KX} {a b : Addr} {P : Fin → Shared → Prop} (hu : A.units < cLine) (hx : IsRowKey prog w s.heap x a) (hy : IsRowKey prog w s.heap y b) (h : P (.done (.ret (.bool (decide (x = y))))) s) :
    wpAny (model prog w) A (Builtin.«tuple.__eq__» ⟨[.ref a, .ref b], []⟩) P E s := by
  have hTb := hy.typeIs
  obtain ⟨⟨sx, rx, ex, shx⟩, oa, xs, na, hoa, _, hda, hia⟩ := hx
  obtain ⟨⟨sy, ry, ey, shy⟩, ob, ys, nb, hob, _, hdb, hib⟩ := hy
  show wpAny _ _ (isInstance (.ref b) (.type "tuple") >>= _) _ _ s
  refine wpAny_bind (wpAny_isInstance hTb isSubtype_tuple_tuple ?_)
  simp only [Bool.not_true, Bool.false_eq_true, if_false]
  refine wpAny_bind (wpAny_tupleItemsOf hoa hda ?_)
  refine wpAny_bind (wpAny_tupleItemsOf hob hdb ?_)
  refine wpAny_bind ?_
  refine wpAny_forIn_list _
    (fun rest r s' => r.1 = none ∧ s' = s ∧ ∃ x' y' xs' ys', rest = List.zip xs' ys' ∧ ItemsX prog w s.heap x' xs' ∧ ItemsX prog w s.heap y' ys' ∧ decide (x' = y') = decide (x = y) ∧ (xs'.length == ys'.length) = (xs.size == ys.size) ∧
      ((x' = x ∧ y' = y) ∨ x'.map Sum.isLeft = y'.map Sum.isLeft))
    _ ?_ ?_ _ _ ⟨rfl, rfl, x, y, xs.toList, ys.toList, rfl, hia, hib, rfl, by simp, .inl ⟨rfl, rfl⟩⟩
  · rintro ⟨u, v⟩ rest r s' ⟨hr, e9, x', y', xs', ys', hz, hx', hy', hdec, hlen, hsh⟩
    subst e9
    cases hx' with
    | nil => simp at hz
    | @int k1 t1 x'' xs'' hx'' =>
      cases hy' with
      | nil => simp at hz
      | @int k2 t2 y'' ys'' hy'' =>
        simp only [List.zip_cons_cons, List.cons.injEq, Prod.mk.injEq] at hz
        obtain ⟨⟨e1, e2⟩, e3⟩ := hz
        subst e1 e2 e3
        refine wpAny_bind ((intKind prog w).eqBool (a := k1) (b := k2) (intKind_is prog w k1 t1) (intKind_is prog w k2 t2) ?_)
        by_cases hk : k1 = k2
        · subst hk
          rw [decide_eq_true rfl]
          simp only [Bool.not_true, Bool.false_eq_true, if_false]
          refine wpAny_pure ⟨rfl, rfl, x'', y'', xs'', ys'', rfl, hx'', hy'', ?_, by simpa using hlen, .inr ?_⟩
          · rw [← hdec]
            by_cases hxy : x'' = y''
            · simp [hxy]
            · simp [hxy]
          · rcases hsh with ⟨q1, q2⟩ | q
            · rw [ex] at q1
              rw [ey] at q2
              injection q1 with q3 q4
              injection q2 with q5 q6
              injection q3 with q7
              injection q5 with q8
              rw [q4, q6, shx, shy, ← q7, ← q8]
            · simpa using q
        · rw [decide_eq_false hk]
          simp only [Bool.not_false, if_true]
          have hf : decide (x = y) = false := by rw [← hdec]; simp [hk]
          rw [hf] at h
          exact wpAny_bind (wpAny_pure (wpAny_pure (wpAny_pure h)))
      | @tup z2 b2 y'' ys'' h2 hy'' =>
        exfalso
        rcases hsh with ⟨q1, q2⟩ | q
        · rw [ey] at q2
          injection q2 with q5 q6
          exact nomatch q5
        · simp at q
    | @tup z1 b1 x'' xs'' h1 hx'' =>
      cases hy' with
      | nil => simp at hz
      | @int k2 t2 y'' ys'' hy'' =>
        exfalso
        rcases hsh with ⟨q1, q2⟩ | q
        · rw [ex] at q1
          injection q1 with q5 q6
          exact nomatch q5
        · simp at q
      | @tup z2 b2 y'' ys'' h2 hy'' =>
        simp only [List.zip_cons_cons, List.cons.injEq, Prod.mk.injEq] at hz
        obtain ⟨⟨e1, e2⟩, e3⟩ := hz
        subst e1 e2 e3
        refine wpAny_bind (wpAny_eqBool_tuple (knd := intKind prog w) (x := z1) (y := z2) hu h1 h2 ?_)
        by_cases hk : z1 = z2
        · subst hk
          rw [decide_eq_true rfl]
          simp only [Bool.not_true, Bool.false_eq_true, if_false]
          refine wpAny_pure ⟨rfl, rfl, x'', y'', xs'', ys'', rfl, hx'', hy'', ?_, by simpa using hlen, .inr ?_⟩
          · rw [← hdec]
            by_cases hxy : x'' = y''
            · simp [hxy]
            · simp [hxy]
          · rcases hsh with ⟨q1, q2⟩ | q
            · rw [ex] at q1
              injection q1 with q3 q4
              exact nomatch q3
            · simpa using q
        · rw [decide_eq_false hk]
          simp only [Bool.not_false, if_true]
          have hf : decide (x = y) = false := by rw [← hdec]; simp [hk]
          rw [hf] at h
          exact wpAny_bind (wpAny_pure (wpAny_pure (wpAny_pure h)))
  · rintro ⟨r1, r2⟩ s' ⟨hr, e9, x', y', xs', ys', hz, hx', hy', hdec, hlen, hsh⟩
    subst e9
    simp only at hr
    subst hr
    refine wpAny_pure ?_
    have hfin : (xs.size == ys.size) = decide (x = y) := by
      rw [← hdec, ← hlen]
      cases hx' with
      | nil =>
        cases hy' with
        | nil => simp
        | int _ => simp
        | tup _ _ => simp
      | int _ =>
        cases hy' with
        | nil => simp
        | int _ => simp at hz
        | tup _ _ => simp at hz
      | tup _ _ =>
        cases hy' with
        | nil => simp
        | int _ => simp at hz
        | tup _ _ => simp at hz
    show P (.done (.ret (.bool (xs.size == ys.size)))) s'
    rw [hfin]; exact h

theorem row_eqBool {x y : List KX} {a b : Addr} {Q : Bool → Shared → Prop} (hu : A.units + 1 < cLine) (hx : IsRowKey prog w s.heap x a) (hy : IsRowKey prog w s.heap y b) (h : Q (decide (x = y)) s) :
    wpAny (model prog w) A (eqBool (.ref a) (.ref b)) Q E s := by
  unfold eqBool
  try with_reducible refine wpAny_holding ?_
  show wpAny _ _ (if (Value.ref a == Value.ref b) = true then _ else _) Q E s
  by_cases hab : (Value.ref a == Value.ref b) = true
  · rw [if_pos hab]
    have e : a = b := by have := eq_of_beq hab; injection this
    subst e
    obtain e2 := hx.inj hy
    subst e2
    exact wpAny_bind (wpAny_rule (wpAny_pure (by simpa using h)))
  · rw [if_neg hab]
    exact wpAny_bind (wpAny_richCompare_same_room (op := .Eq) hx.typeIs hy.typeIs F.slot_tuple_eq
      (wpAny_call_entry F.slot_tuple_eq hx.typeIs F.entry_tuple_eq (row_eq_tree (A := A.in1) hu hx hy ⟨_, rfl, (fun e => nomatch e), wpAny_truthy_bool h⟩) (F.args_tuple_eq_2 _ _)) (Nat.lt_of_succ_lt hu))

theorem quiet_tuple {n : Nat} {ks : List Int} {a : Addr} {Q : Bool → Shared → Prop} (hk : IsTupleKey (intKind prog w) s.heap ks a) (h : Q true s) : wpAny (model prog w) A (eqIsQuiet (n + 1) (.ref a)) Q E s := by
  have hT := hk.typeIs
  obtain ⟨o, items, n, ho, _, hd, hi⟩ := hk
  unfold eqIsQuiet
  refine wpAny_bind (wpAny_specialOf hT F.slot_tuple_eq.lookup ?_)
  show wpAny _ _ (isInstance (.ref a) (.type "tuple") >>= _) _ _ s
  refine wpAny_bind (wpAny_isInstance hT isSubtype_tuple_tuple ?_)
  simp only [Bool.not_true, Bool.false_eq_true, if_false]
  refine wpAny_bind (wpAny_seqItems ho hd ?_)
  refine wpAny_bind ?_
  show wpAny _ _ (forIn items _ _) _ _ s
  rw [← Array.forIn_toList]
  refine wpAny_forIn_list _ (fun rest r s' => r.1 = none ∧ s' = s ∧ ∀ v ∈ rest, carriedByValue v = true) _ ?_ ?_ _ _ ⟨rfl, rfl, hi.byValue⟩
  · rintro v rest r s' ⟨hr, e9, hall⟩
    subst e9
    rw [eqIsQuiet_byValue _ (hall v List.mem_cons_self)]
    refine wpAny_bind (wpAny_pure ?_)
    simp only [Bool.not_true, Bool.false_eq_true, if_false]
    exact wpAny_pure ⟨rfl, rfl, fun u hu' => hall u (List.mem_cons_of_mem _ hu')⟩
  · rintro ⟨r1, r2⟩ s' ⟨hr, e9, _⟩
    subst e9
    simp only at hr
    subst hr
    exact wpAny_pure h

theorem row_quiet {ks : List KX} {a : Addr} {Q : Bool → Shared → Prop} (hk : IsRowKey prog w s.heap ks a) (h : Q true s) : wpAny (model prog w) A (eqIsQuiet 8 (.ref a)) Q E s := by
  have hT := hk.typeIs
  obtain ⟨_, o, items, n, ho, _, hd, hi⟩ := hk
  unfold eqIsQuiet
  refine wpAny_bind (wpAny_specialOf hT F.slot_tuple_eq.lookup ?_)
  show wpAny _ _ (isInstance (.ref a) (.type "tuple") >>= _) _ _ s
  refine wpAny_bind (wpAny_isInstance hT isSubtype_tuple_tuple ?_)
  simp only [Bool.not_true, Bool.false_eq_true, if_false]
  refine wpAny_bind (wpAny_seqItems ho hd ?_)
  refine wpAny_bind ?_
  show wpAny _ _ (forIn items _ _) _ _ s
  rw [← Array.forIn_toList]
  refine wpAny_forIn_list _ (fun rest r s' => r.1 = none ∧ s' = s ∧ ∃ ks', ItemsX prog w s.heap ks' rest) _ ?_ ?_ _ _ ⟨rfl, rfl, ks, hi⟩
  · rintro v rest r s' ⟨hr, e9, ks', hall⟩
    subst e9
    cases hall with
    | @int k t ks'' _ hl =>
      rw [eqIsQuiet_byValue _ rfl]
      refine wpAny_bind (wpAny_pure ?_)
      simp only [Bool.not_true, Bool.false_eq_true, if_false]
      exact wpAny_pure ⟨rfl, rfl, ks'', hl⟩
    | @tup z b ks'' _ h1 hl =>
      refine wpAny_bind (quiet_tuple h1 ?_)
      simp only [Bool.not_true, Bool.false_eq_true, if_false]
      exact wpAny_pure ⟨rfl, rfl, ks'', hl⟩
  · rintro ⟨r1, r2⟩ s' ⟨hr, e9, _⟩
    subst e9
    simp only at hr
    subst hr
    exact wpAny_pure h
end

def rowKind (prog : Program) (w : World) : HeapKind prog w (List KX) where
  is := IsRowKey prog w
  hash := rowHash prog w
  draws := rowDraws
  room := fun A => A.units + 1 < cLine
  inj := fun hx hy => hx.inj hy
  keeps := fun x ho hd hs => x.keeps ho hd hs
  pyHash := fun hu hk h => row_pyHash hu hk h
  eqBool := fun hu hx hy h => row_eqBool hu hx hy h
  quiet := fun hk h => row_quiet hk h
end Mine

end
theorem Mine.top_offNE1 : True := by w_top off; trivial
theorem Mine.turnNE1 {M : Model} {A : Around} {env : Env} {Q : Flow → Shared → Prop} {E : Value → Shared → Prop} {s : Shared} (h : Q .next s) : wpAny M A (execs [] env) Q E s := by walk1; exact h
section
-- E2_tab
namespace Mine
open PySem.Spec PyProof.V PySem.Calls

def encX : KX → PyData
  | .inl k => .int k
  | .inr z => encTuple PyData.int z
theorem keyEnc_X : KeyEnc encX where
  eq := fun a b => by
    cases a with
    | inl k =>
      cases b with
      | inl k' => simp [encX, same_int]
      | inr z => simp [encX, encTuple, Spec.same]
    | inr z =>
      cases b with
      | inl k' => simp [encX, encTuple, Spec.same]
      | inr z' => simp only [encX, same_encTuple same_int, Sum.inr.injEq]
  sep := fun a n k e hne => by
    cases n with
    | inl n =>
      cases k with
      | inl k => exact keyEnc_int.sep a n k e (fun q => hne (by rw [q]))
      | inr z => cases a <;> simp [encX, encTuple, Spec.same] at e ⊢
    | inr z =>
      cases k with
      | inl k => cases a <;> simp [encX, encTuple, Spec.same] at e ⊢
      | inr z' => exact (keyEnc_tuple keyEnc_int).sep a z z' e (fun q => hne (by rw [q]))

abbrev enc (ks : List KX) : PyData := encTuple encX ks
theorem keyEnc_row : KeyEnc enc := keyEnc_tuple keyEnc_X

theorem itemsAre_of {w : World} {vs : List Value} {z : List Int} (h : IntsAre vs z) : PySem.ItemsAre (intKind PG w) z vs := by
  induction h with
  | nil => exact .nil
  | cons n t _ ih => exact .cons (intKind_is PG w n t) ih

/-- the ledger bears the items -/
inductive ItemsN (news : List (Addr × Obj)) : List KX → List Value → Prop
  | nil : ItemsN news [] []
  | int {k : Int} {t : Tok} {ks : List KX} {vs : List Value} : ItemsN news ks vs → ItemsN news (.inl k :: ks) (.int k t :: vs)
  | tup {z : List Int} {b : Addr} {n : Nat} {us : List Value} {ks : List KX} {vs : List Value} : (b, tupOf us n) ∈ news → IntsAre us z → ItemsN news ks vs → ItemsN news (.inr z :: ks) (.ref b :: vs)

def KeyIn (news : List (Addr × Obj)) (ks : List KX) (a : Addr) : Prop := Shp ks ∧ ∃ vs n, (a, tupOf vs n) ∈ news ∧ ItemsN news ks vs

theorem ItemsN.mono {news news' : List (Addr × Obj)} (hs : ∀ p ∈ news, p ∈ news') {ks : List KX} {vs : List Value} (h : ItemsN news ks vs) : ItemsN news' ks vs := by
  induction h with
  | nil => exact .nil
  | int _ ih => exact .int ih
  | tup hb hi _ ih => exact .tup (hs _ hb) hi ih
theorem KeyIn.mono {news news' : List (Addr × Obj)} (hs : ∀ p ∈ news, p ∈ news') {ks : List KX} {a : Addr} : KeyIn news ks a → KeyIn news' ks a
  | ⟨sh, vs, n, hm, hi⟩ => ⟨sh, vs, n, hs _ hm, hi.mono hs⟩

/-- off the addresses that are no tuples, the ledgers agree -/
theorem tup_off {h₀ h : Heap} {L : Addr} {news : List (Addr × Obj)} (N : News h₀ L h news) {a d : Addr} {o : Obj} {vs : List Value} {n : Nat} (ha : (a, tupOf vs n) ∈ news) (hd : (d, o) ∈ news) (hc : o.cls ≠ .type "tuple") : a ≠ d := by
  intro e
  subst e
  have h1 := (N _ ha).1
  rw [(N _ hd).1] at h1
  cases h1
  exact hc rfl
theorem ItemsN.tups {news news' : List (Addr × Obj)} (hs : ∀ a vs n, (a, tupOf vs n) ∈ news → (a, tupOf vs n) ∈ news') {ks : List KX} {vs : List Value} (h : ItemsN news ks vs) : ItemsN news' ks vs := by
  induction h with
  | nil => exact .nil
  | int _ ih => exact .int ih
  | tup hb hi _ ih => exact .tup (hs _ _ _ hb) hi ih
theorem KeyIn.tups {news news' : List (Addr × Obj)} (hs : ∀ a vs n, (a, tupOf vs n) ∈ news → (a, tupOf vs n) ∈ news') {ks : List KX} {a : Addr} : KeyIn news ks a → KeyIn news' ks a
  | ⟨sh, vs, n, hm, hi⟩ => ⟨sh, vs, n, hs _ _ _ hm, hi.tups hs⟩

section
variable {w : World} {h₀ h : Heap} {L : Addr} {news : List (Addr × Obj)}
theorem ItemsN.at (N : News h₀ L h news) {ks : List KX} {vs : List Value} (x : ItemsN news ks vs) : ItemsX PG w h ks vs := by
  induction x with
  | nil => exact .nil
  | int _ ih => exact .int ih
  | tup hb hi _ ih => exact .tup ⟨_, _, _, (N _ hb).1, rfl, rfl, by simpa using itemsAre_of hi⟩ ih
theorem KeyIn.at (N : News h₀ L h news) {ks : List KX} {a : Addr} : KeyIn news ks a → IsRowKey PG w h ks a
  | ⟨sh, vs, n, hm, hi⟩ => ⟨sh, _, _, _, (N _ hm).1, rfl, rfl, by simpa using hi.at N⟩
end

/-- the index of a table of kinds -/
def IdxTab (w : World) (news : List (Addr × Obj)) (d : Addr) (D : List (PyData × PyData)) : Prop :=
  (d == sysModules) = false ∧ ∃ o es ep xs, (d, o) ∈ news ∧ o.ExactDict ∧ o.data = .dict es ep ∧ es.toList = xs.map (entryOfKey (rowKind PG w)) ∧ (xs.map (·.1)).Nodup ∧
    (∀ x ∈ xs, KeyIn news x.1 x.2.1) ∧ FlatPairs enc (kvsOf xs) D

theorem IdxTab.mono {w : World} {news news' : List (Addr × Obj)} {d : Addr} {D : List (PyData × PyData)} (hs : ∀ p ∈ news, p ∈ news') : IdxTab w news d D → IdxTab w news' d D := by
  rintro ⟨lo, o, es, ep, xs, hm, hc, hd, he, hn, hk, hf⟩
  exact ⟨lo, o, es, ep, xs, hs _ hm, hc, hd, he, hn, fun x hx => (hk x hx).mono hs, hf⟩
theorem IdxTab.off {w : World} {news news' : List (Addr × Obj)} {d : Addr} {D : List (PyData × PyData)} (hs : ∀ a vs n, (a, tupOf vs n) ∈ news → (a, tupOf vs n) ∈ news') (hd' : ∀ o, (d, o) ∈ news → (d, o) ∈ news') : IdxTab w news d D → IdxTab w news' d D := by
  rintro ⟨lo, o, es, ep, xs, hm, hc, hd, he, hn, hk, hf⟩
  exact ⟨lo, o, es, ep, xs, hd' _ hm, hc, hd, he, hn, fun x hx => (hk x hx).tups hs, hf⟩
theorem IdxTab.mem {w : World} {news : List (Addr × Obj)} {d : Addr} {D : List (PyData × PyData)} : IdxTab w news d D → ∃ o : Obj, (d, o) ∈ news ∧ o.cls = .type "dict"
  | ⟨_, o, _, _, _, hm, hc, _⟩ => ⟨o, hm, hc.1⟩
theorem IdxTab.ofEmpty {w : World} {news : List (Addr × Obj)} {d : Addr} {K' : Type} [DecidableEq K'] {knd' : KeyKind PG w K'} {o : Obj} (hm : (d, o) ∈ news) (lo : (d == sysModules) = false) (hd : o.IsDictOf knd' []) : IdxTab w news d [] := by
  obtain ⟨es, ep, hc, hdat, _, hp, _⟩ := hd
  have he : es.toList = [] := List.length_eq_zero_iff.mp hp.length
  exact ⟨lo, o, es, ep, [], hm, hc, hdat, he, List.nodup_nil, fun _ hx => by simp at hx, .nil⟩

section
variable {w : World} {A : Around} {E : Value → Shared → Prop} {s : Shared} {h₀ : Heap} {L d a : Addr} {m : Str → Option Value} {news : List (Addr × Obj)} {D : List (PyData × PyData)} {ks : List KX}
theorem IdxTab.at {h : Heap} (T : IdxTab w news d D) (N : News h₀ L h news) : TabAtH (rowKind PG w) enc h d D := by
  obtain ⟨lo, o, es, ep, xs, hm, hc, hd, he, hn, hk, hf⟩ := T
  exact ⟨lo, xs, ⟨o, es, ep, (N _ hm).1, hc, hd, he, fun x hx => (hk x hx).at N, hn⟩, hf⟩
theorem m_idxMethod {pl : Sem Bool} {Q : Value × List Value → Shared → Prop} (N : News h₀ L s.heap news) (T : IdxTab w news d D) (h : Q (.builtin "dict.get", [.ref d]) s) :
    wpAny (model PG w) A (getMethod (.ref d) "get" pl) Q E s := getMethod_tabH PySem.F.slot_dict_get PySem.F.type_dict_get (T.at N) h
theorem m_idxGet {hp1 : Heap} {tk1 : Nat} {dd : Int} {td : Tok} {Q : Value → Shared → Prop} (hu : A.units + 2 < cLine) (N : News h₀ L hp1 news) (T : IdxTab w news d D) (hk : KeyIn news ks a)
    (h : ∀ v, Flat v ((PySem.Spec.lookup (enc ks) D).getD (.int dd)) → Q v { s with heap := hp1, toks := tk1 + rowDraws ks }) : wpAny (model PG w) A (call (.builtin "dict.get") [.ref d, .ref a, .int dd td]) Q E { s with heap := hp1, toks := tk1 } :=
  call_get2_tabH (knd := rowKind PG w) keyEnc_row.eq hu (hk.at N) (T.at N) (Flat.int dd td) h
theorem m_idxSet {hp1 : Heap} {tk1 : Nat} {k : Int} {u : Tok} {Q : Unit → Shared → Prop} (hu : A.units + 2 < cLine) (F : Fr h₀ L hp1 m) (N : News h₀ L hp1 news) (T : IdxTab w news d D) (hk : KeyIn news ks a) (hsz : D.length ≤ 16384)
    (h : ∀ h' news', Fr h₀ L h' m → News h₀ L h' news' → IdxTab w news' d (putD (enc ks) (.int k) D) → (∀ p ∈ news, p.1 ≠ d → p ∈ news') → Q () { s with heap := h', toks := tk1 + rowDraws ks }) :
    wpAny (model PG w) A (setItem (.ref d) (.ref a) (.int k u)) Q E { s with heap := hp1, toks := tk1 } := by
  obtain ⟨lo, o, es, ep, xs, hm, hc, hd, he, hn, hkk, hf⟩ := T
  have hD : hp1.DictOfH (rowKind PG w) d xs := ⟨o, es, ep, (N _ hm).1, hc, hd, he, fun x hx => (hkk x hx).at N, hn⟩
  have hxs : xs.length ≤ sizeLine := by have e := hf.length; simp only [kvsOf, List.length_map] at e; have : sizeLine = 16777216 := rfl; omega
  refine wpAny_setItem_heap (hsz := hxs) (knd := rowKind PG w) hu (hk.at N) hD fun h' hm' hs => ?_
  obtain ⟨o', es', ep', ho', hc', hd', he', _, hn'⟩ := hm'
  have hnt : o.cls ≠ .type "tuple" := by
    rw [hc.1]; intro e; injection e with e; exact absurd e (by decide)
  have keep : ∀ p ∈ news, p.1 ≠ d → p ∈ news.map fun p => if p.1 = d then (d, o') else p := fun p hp hpd => List.mem_map.mpr ⟨p, hp, by simp [hpd]⟩
  have keepT : ∀ a vs n, (a, tupOf vs n) ∈ news → (a, tupOf vs n) ∈ news.map fun p => if p.1 = d then (d, o') else p := fun a vs n ha => keep _ ha (tup_off N ha hm hnt)
  refine h h' (news.map fun p => if p.1 = d then (d, o') else p) (F.change hs (N _ hm).2.1 (N _ hm).2.2) (N.replace hs ho')
    ⟨lo, o', es', ep', storedH xs ks a (.int k u), List.mem_map.mpr ⟨(d, o), hm, by simp⟩, hc', hd', he', hn', fun x hx => ?_, by rw [kvsOf_storedH]; exact hf.stored keyEnc_row.eq ks (Flat.int k u)⟩ keep
  rcases mem_storedH hx with ⟨y, hy, e1, e2⟩ | ⟨e1, e2⟩
  · rw [e2, e1]; exact (hkk y hy).tups keepT
  · rw [e2, e1]; exact hk.tups keepT
end

/-! a table of kinds -/
def keyOf : TRow → List KX
  | .two s x => [.inl (s : Int), .inl (x : Int)]
  | .three s t as => [.inl (s : Int), .inl (t : Int), .inr (zs as)]
  | .four o mm as => [.inl 10, .inl (o : Int), .inl (mm : Int), .inr (zs as)]
theorem zs_inj {a b : List Nat} (h : zs a = zs b) : a = b := by
  induction a generalizing b with
  | nil => cases b with
    | nil => rfl
    | cons y b => simp [zs] at h
  | cons x a ih => cases b with
    | nil => simp [zs] at h
    | cons y b =>
      simp only [zs, List.map_cons, List.cons.injEq] at h
      rw [Int.ofNat.inj h.1, ih h.2]
theorem keyOf_inj {a b : TRow} (h : keyOf a = keyOf b) : a = b := by
  cases a <;> cases b <;> simp only [keyOf, List.cons.injEq, Sum.inl.injEq, Sum.inr.injEq, and_true, reduceCtorEq, and_false, List.nil_eq, List.ne_cons_self] at h
  · obtain ⟨h1, h2⟩ := h
    rw [Int.ofNat.inj h1, Int.ofNat.inj h2]
  · obtain ⟨h1, h2, h3⟩ := h
    rw [Int.ofNat.inj h1, Int.ofNat.inj h2, zs_inj h3]
  · obtain ⟨_, h1, h2, h3⟩ := h
    rw [Int.ofNat.inj h1, Int.ofNat.inj h2, zs_inj h3]

def Fit : TRow → Prop
  | .two s _ => s ≠ 3 ∧ s ≠ 10
  | .three s _ _ => s = 3
  | .four .. => True
theorem shp_key {r : TRow} (h : Fit r) : Shp (keyOf r) := by
  cases r with
  | two s x =>
    refine ⟨_, _, rfl, ?_⟩
    have h1 : (s : Int) ≠ 3 := by have := h.1; omega
    have h2 : (s : Int) ≠ 10 := by have := h.2; omega
    simp [shp, h1, h2]
  | three s t as =>
    have h1 : s = 3 := h
    subst h1
    exact ⟨_, _, rfl, rfl⟩
  | four o mm as => exact ⟨_, _, rfl, rfl⟩
theorem keyIn_row {news : List (Addr × Obj)} {a : Addr} {r : TRow} (h : Fit r) (hr : RowIn news (.ref a) r) : KeyIn news (keyOf r) a := by
  refine ⟨shp_key h, ?_⟩
  cases r with
  | two s x =>
    obtain ⟨a', t1, t2, n, e, hm⟩ := hr
    cases e
    exact ⟨_, _, hm, .int (.int .nil)⟩
  | three s t as =>
    obtain ⟨a', b, vs, t1, t2, n, n', e, hm, hb, hi⟩ := hr
    cases e
    exact ⟨_, _, hm, .int (.int (.tup hb hi .nil))⟩
  | four o mm as =>
    obtain ⟨a', b, vs, t0, t1, t2, n, n', e, hm, hb, hi⟩ := hr
    cases e
    exact ⟨_, _, hm, .int (.int (.int (.tup hb hi .nil)))⟩

structure KtA where
  kt : Addr
  rows : Addr
  idx : Addr
  dep : Addr
  wei : Addr
  opn : Addr

def capOf : TRow → Nat
  | .two s _ => if s = 1 ∨ s = 6 ∨ s = 7 then 1 else 9
  | .three _ _ as => if as = [] then 1 else 2
  | .four .. => 9

/-- a list of rows -/
inductive RowsAt (l : Addr) (R : List TRow) (news : List (Addr × Obj)) : Prop
  | mk (vs : List Value) (n : Nat) (h : (l, W.listOf vs.toArray n) ∈ news) (len : vs.length = R.length) (rows : ∀ (k : Nat) (r : TRow), R[k]? = some r → ∃ v, vs[k]? = some v ∧ RowIn news v r) : RowsAt l R news
/-- a list of numbers beside the rows -/
inductive NumsAt (l : Addr) (R : List TRow) (news : List (Addr × Obj)) : Prop
  | mk (vs : List Value) (n : Nat) (ns : List Nat) (h : (l, W.listOf vs.toArray n) ∈ news) (i : IntsAre vs (zs ns)) (len : ns.length = R.length) (cap : ∀ (k : Nat) (r : TRow) (x : Nat), R[k]? = some r → ns[k]? = some x → x ≤ capOf r) : NumsAt l R news
inductive FlagsAt (l : Addr) (R : List TRow) (news : List (Addr × Obj)) : Prop
  | mk (vs : List Value) (n : Nat) (ns : List Nat) (h : (l, W.listOf vs.toArray n) ∈ news) (i : IntsAre vs (zs ns)) (len : ns.length = R.length) : FlagsAt l R news
inductive IdxAt (w : World) (l : Addr) (R : List TRow) (news : List (Addr × Obj)) : Prop
  | mk (D : List (PyData × PyData)) (h : IdxTab w news l D) (len : D.length ≤ R.length) (at_ : ∀ (r : TRow) (v : PyData), PySem.Spec.lookup (enc (keyOf r)) D = some v → ∃ k : Nat, v = .int (k : Int) ∧ R[k]? = some r) : IdxAt w l R news
/-- a table of kinds -/
structure KTOkN (n16 : Nat) (w : World) (T : KtA) (R : List TRow) (news : List (Addr × Obj)) : Prop where
  kt : KtAt news T.kt T.rows T.idx T.dep T.wei T.opn
  ne : T.rows ≠ T.dep ∧ T.rows ≠ T.wei ∧ T.rows ≠ T.opn ∧ T.dep ≠ T.wei ∧ T.dep ≠ T.opn ∧ T.wei ≠ T.opn
  rows : RowsAt T.rows R news
  idx : IdxAt w T.idx R news
  dep : NumsAt T.dep R news
  wei : NumsAt T.wei R news
  opn : FlagsAt T.opn R news
  prim : ∀ k < n16, R[k]? = some (.two 1 k)
abbrev KTOk (w : World) (T : KtA) (R : List TRow) (news : List (Addr × Obj)) : Prop := KTOkN 16 w T R news

section
variable {w : World} {l : Addr} {R : List TRow} {news news' : List (Addr × Obj)}
theorem RowsAt.mono (hs : ∀ p ∈ news, p ∈ news') (h : RowsAt l R news) : RowsAt l R news' := h.rec fun vs n h len rows => ⟨vs, n, hs _ h, len, fun k r e => (rows k r e).elim fun v q => ⟨v, q.1, q.2.mono hs⟩⟩
theorem NumsAt.mono (hs : ∀ p ∈ news, p ∈ news') (h : NumsAt l R news) : NumsAt l R news' := h.rec fun vs n ns h i len cap => ⟨vs, n, ns, hs _ h, i, len, cap⟩
theorem FlagsAt.mono (hs : ∀ p ∈ news, p ∈ news') (h : FlagsAt l R news) : FlagsAt l R news' := h.rec fun vs n ns h i len => ⟨vs, n, ns, hs _ h, i, len⟩
theorem IdxAt.mono (hs : ∀ p ∈ news, p ∈ news') (h : IdxAt w l R news) : IdxAt w l R news' := h.rec fun D h len at_ => ⟨D, h.mono hs, len, at_⟩
end
theorem KTOk.mono {w : World} {T : KtA} {R : List TRow} {news news' : List (Addr × Obj)} (hs : ∀ p ∈ news, p ∈ news') (h : KTOk w T R news) : KTOk w T R news' :=
  ⟨h.kt.mono hs, h.ne, h.rows.mono hs, h.idx.mono hs, h.dep.mono hs, h.wei.mono hs, h.opn.mono hs, h.prim⟩

theorem KTOk.mono' {w : World} {T : KtA} {R : List TRow} {news news' : List (Addr × Obj)} (h : KTOk w T R news) (hs : ∀ p ∈ news, p ∈ news') : KTOk w T R news' := h.mono hs
theorem RowIn.mono' {v : Value} {r : TRow} {news news' : List (Addr × Obj)} (h : RowIn news v r) (hs : ∀ p ∈ news, p ∈ news') : RowIn news' v r := RowIn.mono hs h
def KtA.Off (T : KtA) (a : Addr) : Prop := a ≠ T.rows ∧ a ≠ T.idx ∧ a ≠ T.dep ∧ a ≠ T.wei ∧ a ≠ T.opn
def Ext (R R' : List TRow) : Prop := ∀ (k : Nat) (r : TRow), R[k]? = some r → R'[k]? = some r

def Only (R R' : List TRow) (row : TRow) : Prop := ∀ (j : Nat) (r : TRow), R'[j]? = some r → R[j]? = some r ∨ r = row
structure PutOk (w : World) (T : KtA) (R : List TRow) (row : TRow) (news : List (Addr × Obj)) (k : Nat) (R' : List TRow) (news' : List (Addr × Obj)) : Prop where
  ok : KTOk w T R' news'
  ext : Ext R R'
  at_ : R'[k]? = some row
  len : R'.length ≤ R.length + 1
  only : Only R R' row
  keep : ∀ p ∈ news, T.Off p.1 → p ∈ news'
def PutPost (w : World) (T : KtA) (R : List TRow) (row : TRow) (news : List (Addr × Obj)) (r : Value) (news' : List (Addr × Obj)) : Prop :=
  ∃ (k : Nat) (R' : List TRow) (t : Tok), r = .int ((k : Nat) : Int) t ∧ PutOk w T R row news k R' news'
theorem PutOk.wk {w : World} {T : KtA} {R : List TRow} {row : TRow} {news0 news : List (Addr × Obj)} {k : Nat} {R' : List TRow} {news' : List (Addr × Obj)} (h : PutOk w T R row news k R' news') (hs : ∀ p ∈ news0, p ∈ news) : PutOk w T R row news0 k R' news' :=
  ⟨h.ok, h.ext, h.at_, h.len, h.only, fun p hp => h.keep p (hs p hp)⟩
theorem Ctl.uP {hp0 : Heap} {tk0 : Nat} {w : World} {T : KtA} {R : List TRow} {row : TRow} {f : Value} {args : List Value} {dpN unN : Nat} {pre : List (Addr × Obj) → Prop} (C : Ctl w f args dpN unN pre (PutPost w T R row))
    {dp un : Nat} {gd : Option (List Code)} {cn : Str} {cs : Scope} {a : Addr} {ccd : Value} {cl : List (Str × Addr)} {outer : List Env} {A₀ : Around} {base h₀ : Heap} {L : Addr} {m : Str → Option Value} {news : List (Addr × Obj)} {s : Shared}
    {mean : ExcName → Option Value} {mg mb : Str → Option Value} {Q E : Value → Shared → Prop}
    (B : Below A₀ base outer h₀) (F : Fr h₀ L hp0 m) (X : (hd.heap_1 w.params).In h₀) (N : News h₀ L hp0 news)
    (T' : Top hd.view_1 (looseW hd.view_1 [Str.ofString "TID_PRIM", Str.ofString "AROUND_WORDS"]) mean mg mb h₀) (hk : cs.kind = .function) (hp : pre news) (hd : dp + dpN < recursionLimit) (hu : un + unN < cLine)
    (ret : ∀ (k : Nat) t h' tk' news' R', Fr h₀ L h' m → News h₀ L h' news' → PutOk w T R row news k R' news' → Q (.int (k : Int) t) { s with heap := h', toks := tk' }) :
    wpAny (model PySem.Challenge.rw_xw0069_01.row.prog w) (ktrTop dp un gd cn cs L a ccd cl outer) (call f args) Q E { s with heap := hp0, toks := tk0 } :=
  C.use B F X N T' hk hp hd hu fun _ h' tk' news' F' N' p => p.elim fun k p => p.elim fun R' p => p.elim fun t p => p.1 ▸ ret k t h' tk' news' R' F' N' p.2
end Mine

end
theorem Mine.top_offNE2 : True := by w_top off; trivial
theorem Mine.turnNE2 {M : Model} {A : Around} {env : Env} {Q : Flow → Shared → Prop} {E : Value → Shared → Prop} {s : Shared} (h : Q .next s) : wpAny M A (execs [] env) Q E s := by walk1; exact h
local macro_rules | `(tactic| walk_at "eval Call") => `(tactic| refine Call_ ?_)
local macro_rules | `(tactic| walk_at "eval Call Name") => `(tactic| ((fail_if_success (with_reducible show wpAny _ _ (eval (PySem.Expr.Call (PySem.Expr.Name "range" _) _ _ _) _) _ _ _)); refine Call_ ?_))

local macro_rules | `(tactic| walk_at "m_tst") => `(tactic| first
  | exact Mine.Tst.or0
  | exact Mine.Tst.and0
  | exact Mine.Tst.nn (by kernel_rfl!)
  | exact Mine.Tst.nc rfl (by kernel_rfl!)
  | exact Mine.Tst.sn (i := 0) rfl (by kernel_rfl!)
  | exact Mine.Tst.sc (i := 1) rfl (by kernel_rfl!)
  | exact Mine.Tst.sc (i := 2) rfl (by kernel_rfl!)
  | (refine Mine.Tst.orT ?_; walk_at "m_tst")
  | (refine Mine.Tst.orF ?_ ?_ <;> walk_at "m_tst")
  | (refine Mine.Tst.orB ?_ ?_ <;> walk_at "m_tst")
  | (refine Mine.Tst.andT ?_ ?_ <;> walk_at "m_tst")
  | (refine Mine.Tst.andB ?_ ?_ <;> walk_at "m_tst"))

section
-- E3_inner
namespace Mine
open PySem.Spec PyProof.V PySem.Calls

def ins : TRow → List Nat
  | .two s x => if s = 6 ∨ s = 7 then [] else [x]
  | .three _ _ as => as
  | .four o _ as => o :: as
/-- the rows that put meets -/
def Good : TRow → Prop
  | .two s _ => s = 5 ∨ s = 6 ∨ s = 7 ∨ s = 8 ∨ s = 9 ∨ s = 11
  | .three s _ as => s = 3 ∧ as.length ≤ 2
  | .four _ _ as => as.length ≤ 2
theorem Good.fit {r : TRow} (h : Good r) : Fit r := by
  cases r with
  | two s x => rcases h with h | h | h | h | h | h <;> subst h <;> exact ⟨by decide, by decide⟩
  | three s t as => exact h.1
  | four o mm as => trivial

section
variable {prog : Program} {w : World} {A : Around} {E : Value → Shared → Prop} {s : Shared} {h₀ : Heap} {L t b : Addr} {m : Str → Option Value} {news : List (Addr × Obj)}
theorem m_addTup {hp1 : Heap} {tk1 : Nat} {vs us : List Value} {n n' : Nat} {Q : Value → Shared → Prop} (F : Fr h₀ L hp1 m) (N : News h₀ L hp1 news) (ht : (t, tupOf vs n) ∈ news) (hb : (b, tupOf us n') ∈ news) (hz : us.length ≤ 16384) (hz' : vs.length ≤ 16384)
    (h : ∀ D h' news' nn, Fr h₀ L h' m → News h₀ L h' news' → (D, tupOf (vs ++ us) nn) ∈ news' → (∀ p ∈ news, p ∈ news') → Q (.ref D) { s with heap := h', toks := tk1 }) :
    wpAny (model prog w) A (binaryOp .Add (.ref t) (.ref b)) Q E { s with heap := hp1, toks := tk1 } := by
  refine add_tuples F N ⟨_, (N _ ht).1, rfl, n, rfl⟩ ⟨_, (N _ hb).1, rfl, n', rfl⟩ (fun e => ?_) (fun _ e => ?_) (fun _ _ h' F' N' => ?_) (by have : sizeLine = 16777216 := rfl; omega)
  · exact h b hp1 news n' F N (by rw [e]; exact hb) (fun _ q => q)
  · exact h t hp1 news n F N (by rw [e, List.append_nil]; exact ht) (fun _ q => q)
  · exact h _ h' _ 0 F' N' (.head _) (fun _ q => .tail _ q)
end
def InsAt (row : TRow) (news : List (Addr × Obj)) (r : Value) (news' : List (Addr × Obj)) : Prop :=
  (∃ (a : Addr) (vs : List Value) (n : Nat), r = .ref a ∧ (a, tupOf vs n) ∈ news' ∧ IntsAre vs (zs (ins row))) ∧ ∀ p ∈ news, p ∈ news'
theorem six7 {s : Nat} (h : s = 6 ∨ s = 7) : ((s : Int) == 2 || ((s : Int) == 3 || false)) = false ∧ ((s : Int) == 4 || ((s : Int) == 5 || ((s : Int) == 8 || ((s : Int) == 9 || ((s : Int) == 11 || false))))) = false ∧ ((s : Int) == 10) = false := by
  rcases h with h | h <;> subst h <;> exact ⟨rfl, rfl, rfl⟩
theorem in5 {s : Nat} (h : s = 5 ∨ s = 8 ∨ s = 9 ∨ s = 11) : ((s : Int) == 2 || ((s : Int) == 3 || false)) = false ∧ ((s : Int) == 4 || ((s : Int) == 5 || ((s : Int) == 8 || ((s : Int) == 9 || ((s : Int) == 11 || false))))) = true := by
  rcases h with h | h | h | h <;> subst h <;> exact ⟨rfl, rfl⟩
theorem Good.two {s x : Nat} (h : Good (.two s x)) : (s = 6 ∨ s = 7) ∨ s = 5 ∨ s = 8 ∨ s = 9 ∨ s = 11 := h.elim (fun h => .inr (.inl h)) fun h => h.elim (fun h => .inl (.inl h)) fun h => h.elim (fun h => .inl (.inr h)) fun h => .inr (.inr h)
theorem ins_no {s x : Nat} (h : s = 6 ∨ s = 7) : ins (.two s x) = [] := if_pos h
theorem ins_one {s x : Nat} (h : s = 5 ∨ s = 8 ∨ s = 9 ∨ s = 11) : ins (.two s x) = [x] := if_neg fun q => by rcases h with h | h | h | h <;> subst h <;> exact absurd q (by decide)
end Mine
local macro_rules | `(tactic| walk_at $k:str) => do
  if ["execs cons If", "subscriptTail", "binaryOp Add ref ref"].contains k.getString then `(tactic| refine Mine.hold_ ?_) else Lean.Macro.throwUnsupported
namespace Mine
open PySem.Spec PyProof.V PySem.Calls
set_option maxHeartbeats 8000000 in
theorem c_inner {w : World} {v : Value} {row : TRow} (hg : Good row) :
    Ctl w (.ref 90) [v] 5 100 (fun news => RowIn news v row) (InsAt row) := by
  unfold Ctl
  k_fill
  intro dp un gd cn cs' a ccd cl outer A₀ base h₀ L m news s mean mg mb Q E B F X N T hk hrow hroom hunits ret
  refine wpAny_call ?_
  k_dflt ktr_enter
  with_reducible rename Fr _ _ _ _ => F1
  replace F1 := fr_of (fun y => List.lookup y [(Str.ofString "row", v)]) F1 (by with_unfolding_all rfl)
  with_reducible rename News _ _ _ _ => N1
  refine hideG ?_
  intro P k9
  cases row with
  | two s x =>
    obtain ⟨a, t1, t2, n, e, hm⟩ := hrow
    subst e
    rcases Good.two hg with h | h
    · obtain ⟨q1, q2, q3⟩ := six7 h
      refine k9 ?_
      clear k9
      k_steps
      unfold Hold
      k_dflt (refine' m_itemTup N1 hm (x := .int (s : Int) t1) (k := 0) rfl (Int.le_refl 0) (by decide) ?_)
      k_steps
      unfold Hold
      with_reducible rename Fr _ _ _ _ => F2
      k_dflt (refine' Mine.m_ifF F2 ?X (topRead_of ?T) rfl (.cast ?e q1) ?_; (case X => k_asm); (case T => k_asm); (case e => walk_at "m_tst"))
      k_dflt (refine' Mine.m_ifF F2 ?X (topRead_of ?T) rfl (.cast ?e q2) ?_; (case X => k_asm); (case T => k_asm); (case e => walk_at "m_tst"))
      k_dflt (refine' Mine.m_ifF F2 ?X (topRead_of ?T) rfl (.cast ?e q3) ?_; (case X => k_asm); (case T => k_asm); (case e => walk_at "m_tst"))
      k_steps
      all_goals (exact ret _ _ _ _ (by assumption) (by assumption) ⟨⟨_, _, _, rfl, .head _, by rw [ins_no h]; exact .nil⟩, fun p hp => .tail _ hp⟩)
    · obtain ⟨q1, q2⟩ := in5 h
      refine k9 ?_
      clear k9
      k_steps
      unfold Hold
      k_dflt (refine' m_itemTup N1 hm (x := .int (s : Int) t1) (k := 0) rfl (Int.le_refl 0) (by decide) ?_)
      k_steps
      unfold Hold
      with_reducible rename Fr _ _ _ _ => F2
      with_reducible rename News _ _ _ _ => N2
      k_dflt (refine' Mine.m_ifF F2 ?X (topRead_of ?T) rfl (.cast ?e q1) ?_; (case X => k_asm); (case T => k_asm); (case e => walk_at "m_tst"))
      k_dflt (refine' Mine.m_ifR F2 ?X (topRead_of ?T) rfl (.cast ?e q2) ?_; (case X => k_asm); (case T => k_asm); (case e => walk_at "m_tst"))
      k_steps
      unfold Hold
      k_dflt (refine' m_itemTup N2 hm (x := .int (x : Int) t2) (k := 1) rfl (by decide) (by decide) ?_)
      k_steps
      all_goals (exact ret _ _ _ _ (by assumption) (by assumption) ⟨⟨_, _, _, rfl, .head _, by rw [ins_one h]; exact .cons _ _ .nil⟩, fun p hp => .tail _ hp⟩)
  | three s t as =>
    obtain ⟨a, b, vs, t1, t2, n, n', e, hm, hb, hi⟩ := hrow
    have h := hg.1
    subst e h
    refine k9 ?_
    clear k9
    k_steps
    unfold Hold
    k_dflt (refine' m_itemTup N1 hm (x := .int ((3 : Nat) : Int) t1) (k := 0) rfl (Int.le_refl 0) (by decide) ?_)
    k_steps
    unfold Hold
    with_reducible rename Fr _ _ _ _ => F2
    with_reducible rename News _ _ _ _ => N2
    k_dflt (refine' Mine.m_ifR F2 ?X (topRead_of ?T) rfl ?e ?_; (case X => k_asm); (case T => k_asm); (case e => walk_at "m_tst"))
    k_steps
    unfold Hold
    k_dflt (refine' m_itemTup N2 hm (x := .ref b) (k := 2) rfl (by decide) (by decide) ?_)
    k_steps
    all_goals (exact ret _ _ _ _ (by assumption) (by assumption) ⟨⟨_, _, _, rfl, hb, hi⟩, fun p hp => hp⟩)
  | four o mm as =>
    obtain ⟨a, b, vs, t0, t1, t2, n, n', e, hm, hb, hi⟩ := hrow
    subst e
    have hvl : vs.length ≤ 16384 := by
      have h1 := hi.length
      simp only [zs, List.length_map] at h1
      exact h1 ▸ Nat.le_trans hg (by decide)
    refine k9 ?_
    clear k9
    k_steps
    unfold Hold
    k_dflt (refine' m_itemTup N1 hm (x := .int 10 t0) (k := 0) rfl (Int.le_refl 0) (by decide) ?_)
    k_steps
    unfold Hold
    with_reducible rename Fr _ _ _ _ => F2
    with_reducible rename News _ _ _ _ => N2
    k_dflt (refine' Mine.m_ifF F2 ?X (topRead_of ?T) rfl ?e ?_; (case X => k_asm); (case T => k_asm); (case e => walk_at "m_tst"))
    k_dflt (refine' Mine.m_ifF F2 ?X (topRead_of ?T) rfl ?e ?_; (case X => k_asm); (case T => k_asm); (case e => walk_at "m_tst"))
    k_dflt (refine' Mine.m_ifR F2 ?X (topRead_of ?T) rfl ?e ?_; (case X => k_asm); (case T => k_asm); (case e => walk_at "m_tst"))
    k_steps
    unfold Hold
    k_dflt (refine' m_itemTup N2 hm (x := .int (o : Int) t1) (k := 1) rfl (by decide) (by decide) ?_)
    k_steps
    unfold Hold
    with_reducible rename News _ _ _ _ => N3
    k_dflt (refine' m_itemTup N3 (.tail _ hm) (x := .ref b) (k := 3) rfl (by decide) (by decide) ?_)
    k_steps
    unfold Hold
    k_dflt (refine' m_addTup ?F N3 (.head _) (.tail _ hb) hvl (Nat.le_add_left 1 16383) ?_; (case F => k_asm))
    intro D9 h9 news9 n9 F9 N9 m9 s9
    k_steps
    all_goals (exact ret _ _ _ _ (by assumption) (by assumption) ⟨⟨_, _, _, rfl, m9, .cons _ _ hi⟩, fun p hp => s9 _ (.tail _ hp)⟩)
end Mine

end
theorem Mine.top_offNE3 : True := by w_top off; trivial
theorem Mine.turnNE3 {M : Model} {A : Around} {env : Env} {Q : Flow → Shared → Prop} {E : Value → Shared → Prop} {s : Shared} (h : Q .next s) : wpAny M A (execs [] env) Q E s := by walk1; exact h
section
-- E4_base
namespace Mine
open PySem.Spec PyProof.V PySem.Calls

/-- what may stand within a row: kind k of row r -/
def Base (k : Nat) : TRow → Prop
  | .two s _ => (s = 1 ∧ 1 ≤ k ∧ k ≤ 11) ∨ (16 ≤ k ∧ (s = 6 ∨ s = 7))
  | .three s _ _ => 16 ≤ k ∧ s = 3
  | .four .. => False
def valB : TRow → Bool
  | .two s _ => s == 1
  | .three .. => true
  | .four .. => false
def sortOf : TRow → Nat
  | .two s _ => s
  | .three s _ _ => s
  | .four .. => 10
theorem row_hd {news : List (Addr × Obj)} {v : Value} {r : TRow} (h : RowIn news v r) : ∃ (a : Addr) (t : Tok) (vs : List Value) (n : Nat), v = .ref a ∧ (a, tupOf (.int ((sortOf r : Nat) : Int) t :: vs) n) ∈ news := by
  cases r with
  | two s x => exact RowIn2.rec (fun a t1 _ n e h => ⟨a, t1, _, n, e, h⟩) h
  | three s t as => exact RowIn3.rec (fun a _ _ t1 _ n _ e h _ _ => ⟨a, t1, _, n, e, h⟩) h
  | four o mm as => exact RowIn4.rec (fun a _ _ t0 _ _ n _ e h _ _ => ⟨a, t0, _, n, e, h⟩) h

theorem Base.sorts {k : Nat} {row : TRow} (h : Base k row) : (sortOf row = 1 ∧ 1 ≤ k ∧ k ≤ 11 ∧ valB row = true) ∨ (16 ≤ k ∧ ((sortOf row = 3 ∧ valB row = true) ∨ ((sortOf row = 6 ∨ sortOf row = 7) ∧ valB row = false))) := by
  cases row with
  | two s x =>
    refine h.imp (fun h => ⟨h.1, h.2.1, h.2.2, beq_iff_eq.mpr h.1⟩) fun h => ⟨h.1, .inr ⟨h.2, ?_⟩⟩
    rcases h.2 with e | e <;> subst e <;> rfl
  | three s t as => exact .inr ⟨h.1, .inl ⟨h.2, rfl⟩⟩
  | four o mm as => exact h.elim
theorem Base.four {k : Nat} {row : TRow} (h : Base k row) : sortOf row = 1 ∨ sortOf row = 3 ∨ sortOf row = 6 ∨ sortOf row = 7 :=
  h.sorts.elim (fun h => .inl h.1) fun h => .inr (h.2.elim (fun h => .inl h.1) fun h => .inr h.1)
theorem Base.room {k : Nat} {row : TRow} (h : Base k row) : ((k : Int) == 0 || ((k : Int) == 14 || false)) = false := by
  have e : k ≠ 0 ∧ k ≠ 14 := by
    have h1 : (1 ≤ k ∧ k ≤ 11) ∨ 16 ≤ k := h.sorts.imp (fun h => ⟨h.2.1, h.2.2.1⟩) fun h => h.1
    refine ⟨fun e => ?_, fun e => ?_⟩ <;> (subst e; exact absurd h1 (by decide))
  rw [beq_no (a := (k : Int)) (b := 0) (fun q => e.1 (Int.ofNat.inj q)), beq_no (a := (k : Int)) (b := 14) (fun q => e.2 (Int.ofNat.inj q))]
  rfl
theorem low_in {k : Nat} (h1 : 1 ≤ k) (h2 : k ≤ 11) : (decide ((1 : Int) ≤ (k : Int)) && (decide ((k : Int) ≤ 11) && true)) = true := by
  rw [decide_eq_true (p := (1 : Int) ≤ (k : Int)) (Int.ofNat_le.mpr h1), decide_eq_true (p := (k : Int) ≤ 11) (Int.ofNat_le.mpr h2)]
  rfl
theorem low_out {k : Nat} (h : 16 ≤ k) : (decide ((1 : Int) ≤ (k : Int)) && (decide ((k : Int) ≤ 11) && true)) = false := by
  rw [decide_eq_false (p := (k : Int) ≤ 11) fun q => absurd (Nat.le_trans h (Int.ofNat_le.mp q)) (by decide), Bool.false_and, Bool.and_false]

/-- a kind's row, as the table gives it -/
theorem kt_row {w : World} {T : KtA} {R : List TRow} {news : List (Addr × Obj)} (H : KTOk w T R news) {k : Nat} {row : TRow} (hr : R[k]? = some row) (hl : R.length < 1000) :
    ∃ v, RowIn news v row ∧ ∀ tk, Ctl w (.ref 69) [.ref T.kt, .int k tk] 5 50 (fun news' => ∀ p ∈ news, p ∈ news') (fun news r news' => r = v ∧ ∀ p ∈ news, p ∈ news') :=
  H.rows.rec fun _vs _n h len rows => (rows k row hr).elim fun v q => ⟨v, q.2, fun _ => (c_row w q.1 (len ▸ hl)).wk (fun _ hs => ⟨H.kt.mono hs, hs _ h⟩) (Nat.le_refl _) (Nat.le_refl _) fun _ _ _ _ p => p⟩
end Mine
local macro_rules | `(tactic| walk_at $k:str) => do
  if ["execs cons If", "subscriptTail", "eval BoolOp"].contains k.getString then `(tactic| refine Mine.hold_ ?_) else Lean.Macro.throwUnsupported
local macro_rules | `(tactic| walk_at "getMethod ref") => `(tactic| (k_here; (with_reducible show wpAny _ _ (getMethod (Value.ref _) (Str.ofString "row") _) _ _ _); refine Mine.hold_ ?_))
namespace Mine
open PySem.Spec PyProof.V PySem.Calls
set_option maxHeartbeats 8000000 in
theorem c_stand {w : World} {T : KtA} {R : List TRow} {k : Nat} {tk : Tok} {row : TRow} (hr : R[k]? = some row) (hb : Base k row) (hl : R.length < 1000) :
    Ctl w (.ref 132) [.ref T.kt, .int k tk] 10 200 (fun news => KTOk w T R news) (fun news r news' => r = .bool true ∧ ∀ p ∈ news, p ∈ news') := by
  unfold Ctl
  k_fill
  intro dp un gd cn cs' a ccd cl outer A₀ base h₀ L m news s mean mg mb Q E B F X N TP hk hpre hroom hunits ret
  have q1 := hb.room
  have hso := hb.four
  refine wpAny_call ?_
  k_dflt ktr_enter
  with_reducible rename Fr _ _ _ _ => F1
  with_reducible rename News _ _ _ _ => N1
  replace F1 := fr_of (fun y => List.lookup y [(Str.ofString "k", Value.int k tk), (Str.ofString "kt", Value.ref T.kt)]) F1 (by with_unfolding_all rfl)
  with_reducible rename (hd.heap_1 w.params).In _ => X1
  refine hideG ?_
  intro P k9
  obtain ⟨v, hrow, C⟩ := kt_row hpre hr hl
  obtain ⟨ra, ts, rest, rn, e, hra⟩ := row_hd hrow
  subst e
  refine k9 ?_
  clear k9
  k_steps
  unfold Hold
  k_dflt (refine' Mine.m_ifF F1 ?X (topRead_of ?T) rfl (.cast ?e q1) ?_; (case X => k_asm); (case T => k_asm); (case e => walk_at "m_tst"))
  k_steps
  unfold Hold
  k_dflt (refine' m_kt_row hpre.kt F1 X1 N1 ?_)
  k_steps
  unfold Hold
  k_dflt (refine' Ctl.u0 (C _) ?B ?F ?X ?N ?T ?hk ?hp ?d ?u ?_; walk_at "m_ctl"; (case hp => exact fun _ h => h))
  intro h9 tk9 news9 F9 N9 s9
  k_steps
  unfold Hold
  k_dflt (refine' m_itemTup N9 (s9 _ hra) (x := .int ((sortOf row : Nat) : Int) ts) (k := 0) rfl (Int.le_refl 0) (by decide) ?_)
  k_steps
  unfold Hold
  with_reducible rename Fr _ _ _ _ => F2
  rcases hso with h | h | h | h
  · k_dflt (refine' Mine.or_valT F2 ?X (topRead_of ?T) rfl (.trans ?e (congrArg some (decide_eq_true (p := ((sortOf row : Nat) : Int) ≤ 4) (by rw [h]; decide)))) ?_; (case X => k_asm); (case T => k_asm); (case e => kernel_rfl!))
    k_steps
    all_goals (exact ret _ _ _ _ (by assumption) (by assumption) ⟨rfl, s9⟩)
  · k_dflt (refine' Mine.or_valT F2 ?X (topRead_of ?T) rfl (.trans ?e (congrArg some (decide_eq_true (p := ((sortOf row : Nat) : Int) ≤ 4) (by rw [h]; decide)))) ?_; (case X => k_asm); (case T => k_asm); (case e => kernel_rfl!))
    k_steps
    all_goals (exact ret _ _ _ _ (by assumption) (by assumption) ⟨rfl, s9⟩)
  · k_dflt (refine' Mine.or_valF F2 ?X (topRead_of ?T) rfl (.trans ?e (congrArg some (decide_eq_false (p := ((sortOf row : Nat) : Int) ≤ 4) (by rw [h]; decide)))) ?_; (case X => k_asm); (case T => k_asm); (case e => kernel_rfl!))
    k_dflt (refine' Mine.or_valT F2 ?X (topRead_of ?T) rfl (.trans ?e (congrArg some (show (((sortOf row : Nat) : Int) == 6) = true by rw [h]; rfl))) ?_; (case X => k_asm); (case T => k_asm); (case e => kernel_rfl!))
    k_steps
    all_goals (exact ret _ _ _ _ (by assumption) (by assumption) ⟨rfl, s9⟩)
  · k_dflt (refine' Mine.or_valF F2 ?X (topRead_of ?T) rfl (.trans ?e (congrArg some (decide_eq_false (p := ((sortOf row : Nat) : Int) ≤ 4) (by rw [h]; decide)))) ?_; (case X => k_asm); (case T => k_asm); (case e => kernel_rfl!))
    k_dflt (refine' Mine.or_valF F2 ?X (topRead_of ?T) rfl (.trans ?e (congrArg some (show (((sortOf row : Nat) : Int) == 6) = false by rw [h]; rfl))) ?_; (case X => k_asm); (case T => k_asm); (case e => kernel_rfl!))
    k_dflt (refine' Mine.or_val1 F2 ?X (topRead_of ?T) rfl (.trans ?e (congrArg some (show (((sortOf row : Nat) : Int) == 7) = true by rw [h]; rfl))) ?_; (case X => k_asm); (case T => k_asm); (case e => kernel_rfl!))
    k_steps
    all_goals (exact ret _ _ _ _ (by assumption) (by assumption) ⟨rfl, s9⟩)

set_option maxHeartbeats 8000000 in
theorem c_isval {w : World} {T : KtA} {R : List TRow} {k : Nat} {tk : Tok} {row : TRow} {bb : Bool} (hr : R[k]? = some row) (hb : Base k row) (hl : R.length < 1000) (hbb : valB row = bb) :
    Ctl w (.ref 202) [.ref T.kt, .int k tk] 10 200 (fun news => KTOk w T R news) (fun news r news' => r = .bool bb ∧ ∀ p ∈ news, p ∈ news') := by
  unfold Ctl
  k_fill
  intro dp un gd cn cs' a ccd cl outer A₀ base h₀ L m news s mean mg mb Q E B F X N TP hk hpre hroom hunits ret
  refine wpAny_call ?_
  k_dflt ktr_enter
  with_reducible rename Fr _ _ _ _ => F1
  with_reducible rename News _ _ _ _ => N1
  replace F1 := fr_of (fun y => List.lookup y [(Str.ofString "k", Value.int k tk), (Str.ofString "kt", Value.ref T.kt)]) F1 (by with_unfolding_all rfl)
  with_reducible rename (hd.heap_1 w.params).In _ => X1
  refine hideG ?_
  intro P k9
  rcases hb.sorts with ⟨h, h1, h2, hv⟩ | ⟨h16, h⟩
  · have q1 := low_in h1 h2
    have hv' := hbb.symm.trans hv
    refine k9 ?_
    clear k9
    k_steps
    unfold Hold
    k_dflt (refine' Mine.m_ifR F1 ?X (topRead_of ?T) rfl (.cast ?e q1) ?_; (case X => k_asm); (case T => k_asm); (case e => walk_at "m_tst"))
    k_steps
    all_goals (exact ret _ _ _ _ (by assumption) (by assumption) ⟨by rw [hv'], fun _ h => h⟩)
  · have q1 := low_out h16
    have hv' : (((sortOf row : Nat) : Int) == 3) = bb := by
      rw [← hbb]
      rcases h with ⟨h, hv⟩ | ⟨h | h, hv⟩ <;> (rw [h, hv]; rfl)
    obtain ⟨v, hrow, C⟩ := kt_row hpre hr hl
    obtain ⟨ra, ts, rest, rn, e, hra⟩ := row_hd hrow
    subst e
    refine k9 ?_
    clear k9
    k_steps
    unfold Hold
    k_dflt (refine' Mine.m_ifF F1 ?X (topRead_of ?T) rfl (.cast ?e q1) ?_; (case X => k_asm); (case T => k_asm); (case e => walk_at "m_tst"))
    k_steps
    unfold Hold
    k_dflt (refine' m_kt_row hpre.kt F1 X1 N1 ?_)
    k_steps
    unfold Hold
    k_dflt (refine' Ctl.u0 (C _) ?B ?F ?X ?N ?T ?hk ?hp ?d ?u ?_; walk_at "m_ctl"; (case hp => exact fun _ h => h))
    intro h9 tk9 news9 F9 N9 s9
    k_steps
    unfold Hold
    k_dflt (refine' m_itemTup N9 (s9 _ hra) (x := .int ((sortOf row : Nat) : Int) ts) (k := 0) rfl (Int.le_refl 0) (by decide) ?_)
    k_steps
    all_goals (exact ret _ _ _ _ (by assumption) (by assumption) ⟨congrArg Value.bool hv', s9⟩)

set_option maxHeartbeats 8000000 in
theorem c_isvar {w : World} {T : KtA} {R : List TRow} {k : Nat} {tk : Tok} {row : TRow} (hr : R[k]? = some row) (hb : Base k row) (hl : R.length < 1000) (hbb : valB row = false) :
    Ctl w (.ref 209) [.ref T.kt, .int k tk] 10 200 (fun news => KTOk w T R news) (fun news r news' => r = .bool true ∧ ∀ p ∈ news, p ∈ news') := by
  unfold Ctl
  k_fill
  intro dp un gd cn cs' a ccd cl outer A₀ base h₀ L m news s mean mg mb Q E B F X N TP hk hpre hroom hunits ret
  refine wpAny_call ?_
  k_dflt ktr_enter
  with_reducible rename Fr _ _ _ _ => F1
  with_reducible rename News _ _ _ _ => N1
  replace F1 := fr_of (fun y => List.lookup y [(Str.ofString "k", Value.int k tk), (Str.ofString "kt", Value.ref T.kt)]) F1 (by with_unfolding_all rfl)
  with_reducible rename (hd.heap_1 w.params).In _ => X1
  refine hideG ?_
  intro P k9
  have hso : sortOf row = 6 ∨ sortOf row = 7 := hb.sorts.elim (fun h => absurd (hbb.symm.trans h.2.2.2) (by decide)) fun h => h.2.elim (fun h => absurd (hbb.symm.trans h.2) (by decide)) fun h => h.1
  obtain ⟨v, hrow, C⟩ := kt_row hpre hr hl
  obtain ⟨ra, ts, rest, rn, e, hra⟩ := row_hd hrow
  subst e
  refine k9 ?_
  clear k9
  k_steps
  unfold Hold
  k_dflt (refine' m_kt_row hpre.kt F1 X1 N1 ?_)
  k_steps
  unfold Hold
  k_dflt (refine' Ctl.u0 (C _) ?B ?F ?X ?N ?T ?hk ?hp ?d ?u ?_; walk_at "m_ctl"; (case hp => exact fun _ h => h))
  intro h9 tk9 news9 F9 N9 s9
  k_steps
  unfold Hold
  k_dflt (refine' m_itemTup N9 (s9 _ hra) (x := .int ((sortOf row : Nat) : Int) ts) (k := 0) rfl (Int.le_refl 0) (by decide) ?_)
  k_steps
  unfold Hold
  with_reducible rename Fr _ _ _ _ => F2
  rcases hso with h | h
  · k_dflt (refine' Mine.or_valT F2 ?X (topRead_of ?T) rfl (.trans ?e (congrArg some (show (((sortOf row : Nat) : Int) == 6) = true by rw [h]; rfl))) ?_; (case X => k_asm); (case T => k_asm); (case e => kernel_rfl!))
    k_steps
    all_goals (exact ret _ _ _ _ (by assumption) (by assumption) ⟨rfl, s9⟩)
  · k_dflt (refine' Mine.or_valF F2 ?X (topRead_of ?T) rfl (.trans ?e (congrArg some (show (((sortOf row : Nat) : Int) == 6) = false by rw [h]; rfl))) ?_; (case X => k_asm); (case T => k_asm); (case e => kernel_rfl!))
    k_dflt (refine' Mine.or_val1 F2 ?X (topRead_of ?T) rfl (.trans ?e (congrArg some (show (((sortOf row : Nat) : Int) == 7) = true by rw [h]; rfl))) ?_; (case X => k_asm); (case T => k_asm); (case e => kernel_rfl!))
    k_steps
    all_goals (exact ret _ _ _ _ (by assumption) (by assumption) ⟨rfl, s9⟩)
end Mine

end
theorem Mine.top_offNE4 : True := by w_top off; trivial
theorem Mine.turnNE4 {M : Model} {A : Around} {env : Env} {Q : Flow → Shared → Prop} {E : Value → Shared → Prop} {s : Shared} (h : Q .next s) : wpAny M A (execs [] env) Q E s := by walk1; exact h
section
-- E5_args
local macro_rules | `(tactic| walk_at $k:str) => do
  if ["execs cons If", "exec For Name Name cons nil"].contains k.getString then `(tactic| refine Mine.hold_ ?_) else Lean.Macro.throwUnsupported
namespace Mine
open PySem.Spec PyProof.V PySem.Calls
theorem len2 {s : Nat} (h : s = 5 ∨ s = 6 ∨ s = 7 ∨ s = 8 ∨ s = 9 ∨ s = 11) : ((s : Int) == 2 || ((s : Int) == 3 || false)) = false ∧ ((s : Int) == 10) = false := by
  rcases h with h | h | h | h | h | h <;> subst h <;> exact ⟨rfl, rfl⟩
theorem lev0 {s : Nat} (h : s = 5 ∨ s = 6 ∨ s = 7 ∨ s = 8 ∨ s = 9 ∨ s = 10 ∨ s = 11) : ((s : Int) == 2 || ((s : Int) == 3 || ((s : Int) == 4 || false))) = false := by
  rcases h with h | h | h | h | h | h | h <;> subst h <;> rfl
set_option maxHeartbeats 8000000 in
theorem c_rlen {w : World} {sn : Nat} (q : Nat) {tk : Tok} (h : (sn = 3 ∧ q = 3) ∨ (sn = 10 ∧ q = 4) ∨ ((sn = 5 ∨ sn = 6 ∨ sn = 7 ∨ sn = 8 ∨ sn = 9 ∨ sn = 11) ∧ q = 2)) :
    Ctl w (.ref 104) [.int sn tk] 5 50 (fun _ => True) (fun news r news' => ∃ t, r = .int (q : Int) t ∧ ∀ p ∈ news, p ∈ news') := by
  unfold Ctl
  k_fill
  intro dp un gd cn cs' ax ccd cl outer A₀ base h₀ L m news s mean mg mb Q E B F X N TP hk hpre hroom hunits ret
  refine wpAny_call ?_
  k_dflt ktr_enter
  with_reducible rename Fr _ _ _ _ => F1
  replace F1 := fr_of (fun y => List.lookup y [(Str.ofString "sort", Value.int sn tk)]) F1 (by with_unfolding_all rfl)
  k_steps
  unfold Hold
  rcases h with ⟨h, h'⟩ | ⟨h, h'⟩ | ⟨h, h'⟩
  · subst h h'
    k_dflt (refine' Mine.m_ifR F1 ?X (topRead_of ?T) rfl ?e ?_; (case X => k_asm); (case T => k_asm); (case e => walk_at "m_tst"))
    k_steps
    all_goals (exact ret _ _ _ _ (by assumption) (by assumption) ⟨_, rfl, fun _ h => h⟩)
  · subst h h'
    k_dflt (refine' Mine.m_ifF F1 ?X (topRead_of ?T) rfl ?e ?_; (case X => k_asm); (case T => k_asm); (case e => walk_at "m_tst"))
    k_dflt (refine' Mine.m_ifR F1 ?X (topRead_of ?T) rfl ?e ?_; (case X => k_asm); (case T => k_asm); (case e => walk_at "m_tst"))
    k_steps
    all_goals (exact ret _ _ _ _ (by assumption) (by assumption) ⟨_, rfl, fun _ h => h⟩)
  · subst h'
    k_dflt (refine' Mine.m_ifF F1 ?X (topRead_of ?T) rfl (.cast ?e (len2 h).1) ?_; (case X => k_asm); (case T => k_asm); (case e => walk_at "m_tst"))
    k_dflt (refine' Mine.m_ifF F1 ?X (topRead_of ?T) rfl (.cast ?e (len2 h).2) ?_; (case X => k_asm); (case T => k_asm); (case e => walk_at "m_tst"))
    k_steps
    all_goals (exact ret _ _ _ _ (by assumption) (by assumption) ⟨_, rfl, fun _ h => h⟩)

set_option maxHeartbeats 8000000 in
theorem c_rlev {w : World} {sn : Nat} (q : Nat) {tk : Tok} (h : (sn = 3 ∧ q = 1) ∨ ((sn = 5 ∨ sn = 6 ∨ sn = 7 ∨ sn = 8 ∨ sn = 9 ∨ sn = 10 ∨ sn = 11) ∧ q = 0)) :
    Ctl w (.ref 97) [.int sn tk] 5 50 (fun _ => True) (fun news r news' => ∃ t, r = .int (q : Int) t ∧ ∀ p ∈ news, p ∈ news') := by
  unfold Ctl
  k_fill
  intro dp un gd cn cs' ax ccd cl outer A₀ base h₀ L m news s mean mg mb Q E B F X N TP hk hpre hroom hunits ret
  refine wpAny_call ?_
  k_dflt ktr_enter
  with_reducible rename Fr _ _ _ _ => F1
  replace F1 := fr_of (fun y => List.lookup y [(Str.ofString "sort", Value.int sn tk)]) F1 (by with_unfolding_all rfl)
  k_steps
  unfold Hold
  rcases h with ⟨h, h'⟩ | ⟨h, h'⟩
  · subst h h'
    k_dflt (refine' Mine.m_ifR F1 ?X (topRead_of ?T) rfl ?e ?_; (case X => k_asm); (case T => k_asm); (case e => walk_at "m_tst"))
    k_steps
    all_goals (exact ret _ _ _ _ (by assumption) (by assumption) ⟨_, rfl, fun _ h => h⟩)
  · subst h'
    k_dflt (refine' Mine.m_ifF F1 ?X (topRead_of ?T) rfl (.cast ?e (lev0 h)) ?_; (case X => k_asm); (case T => k_asm); (case e => walk_at "m_tst"))
    k_steps
    all_goals (exact ret _ _ _ _ (by assumption) (by assumption) ⟨_, rfl, fun _ h => h⟩)

set_option maxHeartbeats 8000000 in
theorem c_cargs {w : World} {T : KtA} {R : List TRow} {b : Addr} {vs : List Value} {as : List Nat} {n : Nat} (hi : IntsAre vs (zs as)) (hb : ∀ x ∈ as, ∃ r, R[x]? = some r ∧ Base x r) (hl : R.length < 1000) :
    Ctl w (.ref 125) [.ref T.kt, .ref b] 15 300 (fun news => KTOk w T R news ∧ (b, tupOf vs n) ∈ news) (fun news r news' => r = .none ∧ ∀ p ∈ news, p ∈ news') := by
  unfold Ctl
  k_fill
  intro dp un gd cn cs' a ccd cl outer A₀ base h₀ L m news s mean mg mb Q E B F X N TP hk hpre hroom hunits ret
  have hkt := hpre.1
  have hbm := hpre.2
  have hat := fun i v (hv : vs[i]? = some v) => ints_at hi hv
  clear hpre hi
  refine wpAny_call ?_
  k_dflt ktr_enter
  with_reducible rename Fr _ _ _ _ => F1
  with_reducible rename News _ _ _ _ => N1
  replace F1 := fr_of (fun y => List.lookup y [(Str.ofString "args", Value.ref b), (Str.ofString "kt", Value.ref T.kt)]) F1 (by with_unfolding_all rfl)
  k_steps
  unfold Hold
  with_unfolding_all refine' For_invVF F1 rfl rfl ?_
  k_steps
  unfold Hold
  refine m_forT (x := Str.ofString "arg") (lo := tupOf vs n) (vs := vs) (k := n) [] [] [] (SubJ news) rfl hbm rfl rfl F1 N1 (fun _ h => h) (fun _ h => nomatch h) ?_ ?_
  · intro I i v it h tk vals u news₁ hI hv hic hoff hlm hbase F2 N2 K hK
    refine hideG ?_
    intro P k9
    obtain ⟨x, ta, ha, e⟩ := hat i v hv
    subst e
    obtain ⟨r, hr, hbr⟩ := hb x (List.mem_of_getElem? ha)
    have hkt1 : KTOk w T R ((I, it) :: news₁) := hkt.mono fun p hp => .tail _ (hbase p hp)
    refine k9 ?_
    clear F1 N1 hv hkt k9
    k_steps
    unfold Hold
    refine wpAny_execs_cons (wpAny_If ?_)
    k_steps
    unfold Hold
    k_dflt (refine' Ctl.u0 (c_stand hr hbr hl) ?B ?F ?X ?N ?T ?hk ?hp ?d ?u ?_; walk_at "m_ctl"; (case hp => exact hkt1))
    intro h9 tk9 news9 F9 N9 s9
    k_steps
    unfold Hold KP
    exact hK .next _ (MEnd.of (by assumption) (by assumption) (s9 _ (.head _)) (fun p hp => by rw [List.mem_singleton.mp hp]; exact s9 _ (.tail _ hlm)) rfl (fun z g1 _ _ => by simp only [if_neg g1]; rfl) fun p hp => mem_offI.mpr ⟨s9 _ (.tail _ (hbase p hp)), hoff p (hbase p hp)⟩)
  · intro vals u news₁ h tk hbase hlm F2 N2
    clear F1 N1
    k_steps
    all_goals (exact ret _ _ _ _ (by assumption) (by assumption) ⟨rfl, hbase⟩)
end Mine

end
theorem Mine.top_offNE5 : True := by w_top off; trivial
theorem Mine.turnNE5 {M : Model} {A : Around} {env : Env} {Q : Flow → Shared → Prop} {E : Value → Shared → Prop} {s : Shared} (h : Q .next s) : wpAny M A (execs [] env) Q E s := by walk1; exact h
section
-- E6_check
namespace Mine
open PySem.Spec PyProof.V PySem.Calls
def RowOkT (R : List TRow) (row : TRow) : Prop := Good row ∧ (∀ x ∈ ins row, ∃ r, R[x]? = some r ∧ Base x r) ∧ ∀ s t as, row = .three s t as → 30 ≤ t ∧ t < 1000
def lenOf : TRow → Nat
  | .two .. => 2
  | .three .. => 3
  | .four .. => 4
theorem row_hl {news : List (Addr × Obj)} {v : Value} {r : TRow} (h : RowIn news v r) : ∃ (a : Addr) (t : Tok) (vs : List Value) (n : Nat), v = .ref a ∧ (a, tupOf (.int ((sortOf r : Nat) : Int) t :: vs) n) ∈ news ∧ (.int ((sortOf r : Nat) : Int) t :: vs).length = lenOf r := by
  cases r with
  | two s x => exact RowIn2.rec (fun a t1 _ n e h => ⟨a, t1, _, n, e, h, rfl⟩) h
  | three s t as => exact RowIn3.rec (fun a _ _ t1 _ n _ e h _ _ => ⟨a, t1, _, n, e, h, rfl⟩) h
  | four o mm as => exact RowIn4.rec (fun a _ _ t0 _ _ n _ e h _ _ => ⟨a, t0, _, n, e, h, rfl⟩) h
theorem Good.len {r : TRow} (h : Good r) : (sortOf r = 3 ∧ lenOf r = 3) ∨ (sortOf r = 10 ∧ lenOf r = 4) ∨ ((sortOf r = 5 ∨ sortOf r = 6 ∨ sortOf r = 7 ∨ sortOf r = 8 ∨ sortOf r = 9 ∨ sortOf r = 11) ∧ lenOf r = 2) := by
  cases r with
  | two s x => exact .inr (.inr ⟨h, rfl⟩)
  | three s t as => exact .inl ⟨h.1, rfl⟩
  | four o mm as => exact .inr (.inl ⟨rfl, rfl⟩)
theorem Good.rng {r : TRow} (h : Good r) : (decide (((sortOf r : Nat) : Int) ≤ 1) || (decide ((11 : Int) < ((sortOf r : Nat) : Int)) || false)) = false := by
  rcases h.len with h | h | h
  · rw [h.1]; rfl
  · rw [h.1]; rfl
  · rcases h.1 with h | h | h | h | h | h <;> (rw [h]; rfl)
theorem six7T {s : Nat} (h : s = 6 ∨ s = 7) : ((s : Int) == 2 || ((s : Int) == 3 || false)) = false ∧ ((s : Int) == 6 || ((s : Int) == 7 || false)) = true := by
  rcases h with h | h <;> subst h <;> exact ⟨rfl, rfl⟩
theorem in5F {s : Nat} (h : s = 5 ∨ s = 9 ∨ s = 11) : ((s : Int) == 2 || ((s : Int) == 3 || false)) = false ∧ ((s : Int) == 6 || ((s : Int) == 7 || false)) = false ∧ ((s : Int) == 10) = false ∧ ((s : Int) == 8) = false := by
  rcases h with h | h | h <;> subst h <;> exact ⟨rfl, rfl, rfl, rfl⟩
theorem Good.three {s x : Nat} (h : Good (.two s x)) : (s = 6 ∨ s = 7) ∨ s = 8 ∨ (s = 5 ∨ s = 9 ∨ s = 11) :=
  h.elim (fun h => .inr (.inr (.inl h))) fun h => h.elim (fun h => .inl (.inl h)) fun h => h.elim (fun h => .inl (.inr h)) fun h => h.elim (fun h => .inr (.inl h)) fun h => .inr (.inr (.inr h))
theorem lt0 (n : Nat) : decide ((n : Int) < 0) = false := decide_eq_false (Int.not_lt.mpr (Int.natCast_nonneg n))
theorem lt0' (n : Nat) : (decide ((n : Int) < 0) || false) = false := by rw [lt0]; rfl
end Mine
local macro_rules | `(tactic| walk_at $k:str) => do
  if ["execs cons If", "subscriptTail", "isTrue BoolOp", "call builtin:len", "exec For Name Call cons nil", "compareOp In int ref"].contains k.getString then `(tactic| refine Mine.hold_ ?_) else Lean.Macro.throwUnsupported
local macro_rules | `(tactic| walk_at "getMethod ref") => `(tactic| (k_here; (with_reducible show wpAny _ _ (getMethod (Value.ref _) (Str.ofString "row") _) _ _ _); refine Mine.hold_ ?_))
namespace Mine
open PySem.Spec PyProof.V PySem.Calls
set_option maxHeartbeats 8000000 in
theorem c_named {w : World} {T : KtA} {R : List TRow} {a b : Addr} {vs : List Value} {as : List Nat} {t n n' : Nat} {t1 t2 : Tok} (hi : IntsAre vs (zs as)) (hb : ∀ x ∈ as, ∃ r, R[x]? = some r ∧ Base x r) (hl : R.length < 1000) (ht1 : 30 ≤ t) :
    Ctl w (.ref 118) [.ref T.kt, .ref a] 20 400 (fun news => KTOk w T R news ∧ (a, tupOf [.int ((3 : Nat) : Int) t1, .int (t : Int) t2, .ref b] n) ∈ news ∧ (b, tupOf vs n') ∈ news) (fun news r news' => r = .none ∧ ∀ p ∈ news, p ∈ news') := by
  unfold Ctl
  k_fill
  intro dp un gd cn cs' ax ccd cl outer A₀ base h₀ L m news s mean mg mb Q E B F X N TP hk hpre hroom hunits ret
  have hkt := hpre.1
  have ham := hpre.2.1
  have hbm := hpre.2.2
  have h30 : (30 : Int) ≤ (t : Int) := Int.ofNat_le.mpr ht1
  have ht0 : ¬ (t : Int) ≤ 0 := fun q => absurd (Int.le_trans h30 q) (by decide)
  clear hpre
  refine wpAny_call ?_
  k_dflt ktr_enter
  with_reducible rename Fr _ _ _ _ => F1
  with_reducible rename News _ _ _ _ => N1
  with_reducible rename (hd.heap_1 w.params).In _ => X1
  replace F1 := fr_of (fun y => List.lookup y [(Str.ofString "row", Value.ref a), (Str.ofString "kt", Value.ref T.kt)]) F1 (by with_unfolding_all rfl)
  k_steps
  unfold Hold
  refine wpAny_execs_cons (wpAny_If ?_)
  refine isTrue_or ?_
  k_steps
  unfold Hold
  k_dflt (refine' m_itemTup N1 ham (x := .int (t : Int) t2) (k := 1) rfl (by decide) (by decide) ?_)
  k_steps
  unfold Hold
  refine isTrue_or ?_
  k_steps
  unfold Hold
  k_dflt (refine' m_itemTup N1 ham (x := .int (t : Int) t2) (k := 1) rfl (by decide) (by decide) ?_)
  k_steps
  unfold Hold
  k_dflt (refine' m_tpIn F1 X1 (tp_none h30) ?_)
  k_steps
  unfold Hold
  refine isTrue_or_nil ?_
  k_steps
  unfold Hold
  k_dflt (refine' m_itemTup N1 ham (x := .ref b) (k := 2) rfl (by decide) (by decide) ?_)
  k_steps
  unfold Hold
  k_dflt (refine' Ctl.u0 (c_cargs hi hb hl) ?B ?F ?X ?N ?T ?hk ?hp ?d ?u ?_; walk_at "m_ctl"; (case hp => exact ⟨hkt, hbm⟩))
  intro h9 tk9 news9 F9 N9 s9
  k_steps
  all_goals exact ret _ _ _ _ (by assumption) (by assumption) ⟨rfl, s9⟩

set_option maxHeartbeats 16000000 in
theorem c_check {w : World} {T : KtA} {R : List TRow} {v : Value} {row : TRow} (hok : RowOkT R row) (hl : R.length < 1000) :
    Ctl w (.ref 111) [.ref T.kt, v] 30 600 (fun news => KTOk w T R news ∧ RowIn news v row) (fun news r news' => r = .none ∧ ∀ p ∈ news, p ∈ news') := by
  unfold Ctl
  k_fill
  intro dp un gd cn cs' ax ccd cl outer A₀ base h₀ L m news s mean mg mb Q E B F X N TP hk hpre hroom hunits ret
  have hkt := hpre.1
  have hrow := hpre.2
  clear hpre
  obtain ⟨a, ts, rest, rn, e, hra, hlen⟩ := row_hl hrow
  subst e
  have hl16 : (Value.int ((sortOf row : Nat) : Int) ts :: rest).length ≤ 16384 := by rw [hlen]; cases row <;> exact Nat.le_of_ble_eq_true rfl
  have hn0 : ¬ (((Value.int ((sortOf row : Nat) : Int) ts :: rest).length : Nat) : Int) = 0 := fun q => nomatch Int.ofNat.inj q
  have hne : (((Value.int ((sortOf row : Nat) : Int) ts :: rest).length : Nat) : Int) = ((lenOf row : Nat) : Int) := congrArg _ hlen
  refine wpAny_call ?_
  k_dflt ktr_enter
  with_reducible rename Fr _ _ _ _ => F1
  with_reducible rename News _ _ _ _ => N1
  with_reducible rename (hd.heap_1 w.params).In _ => X1
  replace F1 := fr_of (fun y => List.lookup y [(Str.ofString "row", Value.ref a), (Str.ofString "kt", Value.ref T.kt)]) F1 (by with_unfolding_all rfl)
  k_steps
  unfold Hold
  refine wpAny_execs_cons (wpAny_If ?_)
  refine isTrue_or ?_
  k_steps
  unfold Hold
  k_dflt (refine' m_lenT N1 hra hl16 ?_)
  k_steps
  unfold Hold
  k_dflt (refine' Mine.m_isF (x₀ := Str.ofString "row") (fun _ => ⟨_, rfl, _, (N1 _ hra).1, rfl, _, rfl⟩) F1 ?X (topRead_of ?T) rfl (.cast ?e hok.1.rng) ?_; (case X => k_asm); (case T => k_asm); (case e => walk_at "m_tst"))
  intro k1
  k_steps
  unfold Hold
  k_dflt (refine' m_itemTup N1 hra (x := .int ((sortOf row : Nat) : Int) ts) (k := 0) rfl (Int.le_refl 0) (by decide) ?_)
  k_steps
  unfold Hold
  refine wpAny_execs_cons (wpAny_If ?_)
  k_steps
  unfold Hold
  with_reducible rename Fr _ _ _ _ => F2
  with_reducible rename News _ _ _ _ => N2
  k_dflt (refine' m_lenT N2 hra hl16 ?_)
  k_steps
  unfold Hold
  k_dflt (refine' Ctl.u1 (c_rlen (lenOf row) hok.1.len) ?B ?F ?X ?N ?T ?hk ?hp ?d ?u ?_; walk_at "m_ctl"; (case hp => exact trivial))
  intro t9 h9 tk9 news9 F9 N9 s9
  k_steps
  unfold Hold
  with_unfolding_all refine' For_invVF F9 rfl rfl ?_
  k_steps
  unfold Hold
  k_dflt (refine' Ctl.use (c_inner hok.1) ?B ?F ?X ?N ?T ?hk ?hp ?d ?u ?_; walk_at "m_ctl"; (case hp => exact hrow.mono s9))
  intro r h10 tk10 news10 F10 N10 p10
  have s11 := fun p hp => p10.2 p (s9 p hp)
  refine hideG ?_
  intro P k9
  obtain ⟨⟨ia, ivs, inn, er, him, hii⟩, s10⟩ := p10
  subst er
  refine k9 ?_
  clear k9 F9 N9
  k_steps
  unfold Hold
  refine m_forT (x := Str.ofString "inner") (lo := tupOf ivs inn) (vs := ivs) (k := inn) [] [] [] (SubJ news) rfl him rfl rfl F10 N10 s11 (fun _ h => nomatch h) ?_ ?_
  · intro I i v it h tk vals u news₁ hI hv hic hoff hlm hbase F2 N2 K hK
    refine hideG ?_
    intro P k9
    obtain ⟨y, ta, ha, e⟩ := ints_at hii hv
    subst e
    obtain ⟨r, hr, hbr⟩ := hok.2.1 y (List.mem_of_getElem? ha)
    obtain ⟨v1, _, C⟩ := kt_row hkt hr hl
    refine k9 ?_
    clear F10 N10 hv k9
    k_steps
    unfold Hold
    k_dflt (refine' m_kt_row (hkt.kt.mono fun p hp => .tail _ (hbase p hp)) F2 X1 N2 ?_)
    k_steps
    unfold Hold
    k_dflt (refine' Ctl.u0 (C _) ?B ?F ?X ?N ?T ?hk ?hp ?d ?u ?_; walk_at "m_ctl"; (case hp => exact fun p hp => .tail _ (hbase p hp)))
    intro h9 tk9 news9 F9 N9 s9
    k_steps
    unfold Hold KP
    exact hK .next _ (MEnd.of F9 N9 (s9 _ (.head _)) (fun p hp => by rw [List.mem_singleton.mp hp]; exact s9 _ (.tail _ hlm)) rfl (fun z g1 _ _ => by simp only [if_neg g1]; rfl) fun p hp => mem_offI.mpr ⟨s9 _ (.tail _ (hbase p hp)), hoff p (hbase p hp)⟩)
  · intro vals u news₁ h tk hbase hlm F2 N2
    have hkt1 := hkt.mono hbase
    have hrow1 := hrow.mono hbase
    clear F10 N10 hlm him hii hra hkt hrow
    k_steps
    unfold Hold
    refine hideG ?_
    intro P k9
    cases row with
    | two s x =>
      obtain ⟨b, t1, t2, n, e, hm⟩ := hrow1
      injection e with e
      subst e
      rcases hok.1.three with hq | hq | hq
      · obtain ⟨q1, q2⟩ := six7T hq
        refine k9 ?_
        clear k9
        k_dflt (refine' Mine.m_ifE F2 ?X (topRead_of ?T) rfl (.cast ?e q1) ?_; (case X => k_asm); (case T => k_asm); (case e => walk_at "m_tst"))
        k_dflt (refine' Mine.m_ifT F2 ?X (topRead_of ?T) rfl (.cast ?e q2) ?_; (case X => k_asm); (case T => k_asm); (case e => walk_at "m_tst"))
        refine wpAny_execs_cons (wpAny_If ?_)
        k_dflt (refine' Mine.m_isF (x₀ := Str.ofString "row") (fun _ => ⟨_, rfl, _, (N2 _ hm).1, rfl, _, rfl⟩) F2 ?X (topRead_of ?T) rfl (.cast ?e (lt0 x)) ?_; (case X => k_asm); (case T => k_asm); (case e => walk_at "m_tst"))
        intro k2
        k_steps
        all_goals exact ret _ _ _ _ (by assumption) (by assumption) ⟨rfl, hbase⟩
      · subst hq
        obtain ⟨r0, hr0, hb0⟩ := hok.2.1 x (.head _)
        refine k9 ?_
        clear k9
        k_dflt (refine' Mine.m_ifE F2 ?X (topRead_of ?T) rfl ?e ?_; (case X => k_asm); (case T => k_asm); (case e => walk_at "m_tst"))
        k_dflt (refine' Mine.m_ifE F2 ?X (topRead_of ?T) rfl ?e ?_; (case X => k_asm); (case T => k_asm); (case e => walk_at "m_tst"))
        k_dflt (refine' Mine.m_ifE F2 ?X (topRead_of ?T) rfl ?e ?_; (case X => k_asm); (case T => k_asm); (case e => walk_at "m_tst"))
        k_dflt (refine' Mine.m_ifT F2 ?X (topRead_of ?T) rfl ?e ?_; (case X => k_asm); (case T => k_asm); (case e => walk_at "m_tst"))
        refine wpAny_execs_cons (wpAny_If ?_)
        refine isTrue_not ?_
        refine isTrue_or ?_
        k_steps
        unfold Hold
        k_dflt (refine' m_itemTup N2 hm (x := .int (x : Int) t2) (k := 1) rfl (by decide) (by decide) ?_)
        k_steps
        unfold Hold
        cases hv0 : valB r0
        · k_dflt (refine' Ctl.u0 (c_isval hr0 hb0 hl hv0) ?B ?F ?X ?N ?T ?hk ?hp ?d ?u ?_; walk_at "m_ctl"; (case hp => exact hkt1))
          intro h9 tk9 news9 F9 N9 s9
          k_steps
          unfold Hold
          refine isTrue_or ?_
          k_steps
          unfold Hold
          k_dflt (refine' m_itemTup N9 (s9 _ hm) (x := .int (x : Int) t2) (k := 1) rfl (by decide) (by decide) ?_)
          k_steps
          unfold Hold
          k_dflt (refine' Ctl.u0 (c_isvar hr0 hb0 hl hv0) ?B ?F ?X ?N ?T ?hk ?hp ?d ?u ?_; walk_at "m_ctl"; (case hp => exact hkt1.mono s9))
          intro h10 tk10 news10 F10 N10 s10
          k_steps
          all_goals exact ret _ _ _ _ (by assumption) (by assumption) ⟨rfl, fun p hp => s10 p (s9 p (hbase p hp))⟩
        · k_dflt (refine' Ctl.u0 (c_isval hr0 hb0 hl hv0) ?B ?F ?X ?N ?T ?hk ?hp ?d ?u ?_; walk_at "m_ctl"; (case hp => exact hkt1))
          intro h9 tk9 news9 F9 N9 s9
          k_steps
          all_goals exact ret _ _ _ _ (by assumption) (by assumption) ⟨rfl, fun p hp => s9 p (hbase p hp)⟩
      · obtain ⟨q1, q2, q3, q4⟩ := in5F hq
        obtain ⟨r0, hr0, hb0⟩ := hok.2.1 x (by rw [ins_one (hq.imp_right .inr)]; exact .head _)
        refine k9 ?_
        clear k9
        k_dflt (refine' Mine.m_ifE F2 ?X (topRead_of ?T) rfl (.cast ?e q1) ?_; (case X => k_asm); (case T => k_asm); (case e => walk_at "m_tst"))
        k_dflt (refine' Mine.m_ifE F2 ?X (topRead_of ?T) rfl (.cast ?e q2) ?_; (case X => k_asm); (case T => k_asm); (case e => walk_at "m_tst"))
        k_dflt (refine' Mine.m_ifE F2 ?X (topRead_of ?T) rfl (.cast ?e q3) ?_; (case X => k_asm); (case T => k_asm); (case e => walk_at "m_tst"))
        k_dflt (refine' Mine.m_ifE F2 ?X (topRead_of ?T) rfl (.cast ?e q4) ?_; (case X => k_asm); (case T => k_asm); (case e => walk_at "m_tst"))
        refine wpAny_execs_cons (wpAny_If ?_)
        refine isTrue_not ?_
        k_steps
        unfold Hold
        k_dflt (refine' m_itemTup N2 hm (x := .int (x : Int) t2) (k := 1) rfl (by decide) (by decide) ?_)
        k_steps
        unfold Hold
        k_dflt (refine' Ctl.u0 (c_stand hr0 hb0 hl) ?B ?F ?X ?N ?T ?hk ?hp ?d ?u ?_; walk_at "m_ctl"; (case hp => exact hkt1))
        intro h9 tk9 news9 F9 N9 s9
        k_steps
        all_goals exact ret _ _ _ _ (by assumption) (by assumption) ⟨rfl, fun p hp => s9 p (hbase p hp)⟩
    | three s t as =>
      obtain ⟨b, b', vs, t1, t2, n, n', e, hm, hb, hi⟩ := hrow1
      injection e with e
      have hq := hok.1.1
      subst e hq
      have ht := hok.2.2 _ _ _ rfl
      refine k9 ?_
      clear k9
      k_dflt (refine' Mine.m_ifT F2 ?X (topRead_of ?T) rfl ?e ?_; (case X => k_asm); (case T => k_asm); (case e => walk_at "m_tst"))
      k_steps
      unfold Hold
      k_dflt (refine' Ctl.u0 (c_named (R := R) hi hok.2.1 hl ht.1) ?B ?F ?X ?N ?T ?hk ?hp ?d ?u ?_; walk_at "m_ctl"; (case hp => exact ⟨hkt1, hm, hb⟩))
      intro h9 tk9 news9 F9 N9 s9
      k_steps
      all_goals exact ret _ _ _ _ (by assumption) (by assumption) ⟨rfl, fun p hp => s9 p (hbase p hp)⟩
    | four o mm as =>
      obtain ⟨b, b', vs, t0, t1, t2, n, n', e, hm, hb, hi⟩ := hrow1
      injection e with e
      subst e
      obtain ⟨r0, hr0, hb0⟩ := hok.2.1 o (.head _)
      refine k9 ?_
      clear k9
      k_dflt (refine' Mine.m_ifE F2 ?X (topRead_of ?T) rfl ?e ?_; (case X => k_asm); (case T => k_asm); (case e => walk_at "m_tst"))
      k_dflt (refine' Mine.m_ifE F2 ?X (topRead_of ?T) rfl ?e ?_; (case X => k_asm); (case T => k_asm); (case e => walk_at "m_tst"))
      k_dflt (refine' Mine.m_ifT F2 ?X (topRead_of ?T) rfl ?e ?_; (case X => k_asm); (case T => k_asm); (case e => walk_at "m_tst"))
      refine wpAny_execs_cons (wpAny_If ?_)
      refine isTrue_or ?_
      refine isTrue_not ?_
      k_steps
      unfold Hold
      k_dflt (refine' m_itemTup N2 hm (x := .int (o : Int) t1) (k := 1) rfl (by decide) (by decide) ?_)
      k_steps
      unfold Hold
      k_dflt (refine' Ctl.u0 (c_stand hr0 hb0 hl) ?B ?F ?X ?N ?T ?hk ?hp ?d ?u ?_; walk_at "m_ctl"; (case hp => exact hkt1))
      intro h9 tk9 news9 F9 N9 s9
      k_steps
      unfold Hold
      k_dflt (refine' Mine.m_isF (x₀ := Str.ofString "row") (fun _ => ⟨_, rfl, _, (N9 _ (s9 _ hm)).1, rfl, _, rfl⟩) F9 ?X (topRead_of ?T) rfl (.cast ?e (lt0' mm)) ?_; (case X => k_asm); (case T => k_asm); (case e => walk_at "m_tst"))
      intro k2
      k_steps
      unfold Hold
      k_dflt (refine' m_itemTup N9 (s9 _ hm) (x := .ref b') (k := 3) rfl (by decide) (by decide) ?_)
      k_steps
      unfold Hold
      k_dflt (refine' Ctl.u0 (c_cargs (R := R) hi (fun x hx => hok.2.1 x (.tail _ hx)) hl) ?B ?F ?X ?N ?T ?hk ?hp ?d ?u ?_; walk_at "m_ctl"; (case hp => exact ⟨hkt1.mono s9, s9 _ hb⟩))
      intro h10 tk10 news10 F10 N10 s10
      k_steps
      all_goals exact ret _ _ _ _ (by assumption) (by assumption) ⟨rfl, fun p hp => s10 p (s9 p (hbase p hp))⟩
end Mine

end
theorem Mine.top_offNE6 : True := by w_top off; trivial
theorem Mine.turnNE6 {M : Model} {A : Around} {env : Env} {Q : Flow → Shared → Prop} {E : Value → Shared → Prop} {s : Shared} (h : Q .next s) : wpAny M A (execs [] env) Q E s := by walk1; exact h
section
-- E7_putdefs
namespace Mine
open PySem.Spec PyProof.V PySem.Calls

theorem cls_ne {a b : String} (h : a ≠ b) : Value.type a ≠ Value.type b := fun e => h (Value.type.inj e)
theorem obj_ne {h₀ h : Heap} {L : Addr} {news : List (Addr × Obj)} (N : News h₀ L h news) {a b : Addr} {o o' : Obj} (ha : (a, o) ∈ news) (hb : (b, o') ∈ news) (hc : o.cls ≠ o'.cls) : a ≠ b := by
  intro e
  subst e
  exact hc (congrArg Obj.cls (Option.some.inj ((N _ ha).1.symm.trans (N _ hb).1)))

def lvlOf : TRow → Nat
  | .two .. => 0
  | .three .. => 1
  | .four .. => 0
theorem lvl_ok {r : TRow} (hg : Good r) : (sortOf r = 3 ∧ lvlOf r = 1) ∨ ((sortOf r = 5 ∨ sortOf r = 6 ∨ sortOf r = 7 ∨ sortOf r = 8 ∨ sortOf r = 9 ∨ sortOf r = 10 ∨ sortOf r = 11) ∧ lvlOf r = 0) := by
  cases r with
  | two s x => exact .inr ⟨hg.imp_right fun h => h.imp_right fun h => h.imp_right fun h => h.imp_right fun h => h.imp_right .inr, rfl⟩
  | three s t as => exact .inl ⟨hg.1, rfl⟩
  | four o mm as => exact .inr ⟨.inr (.inr (.inr (.inr (.inr (.inl rfl))))), rfl⟩

theorem ints_snoc {vs : List Value} {ns : List Nat} {x : Nat} {t : Tok} (h : IntsAre vs (zs ns)) : IntsAre (vs ++ [.int (x : Int) t]) (zs (ns ++ [x])) := by
  have e : zs (ns ++ [x]) = zs ns ++ [(x : Int)] := List.map_append
  rw [e]
  exact h.append (.cons _ _ .nil)
theorem ints_len {vs : List Value} {ns : List Nat} (h : IntsAre vs (zs ns)) : vs.length = ns.length := by have := h.length; rwa [zs, List.length_map] at this

theorem get_snoc {α : Type} {l : List α} {x y : α} {k : Nat} (h : (l ++ [x])[k]? = some y) : l[k]? = some y ∨ (k = l.length ∧ y = x) := by
  by_cases e : k < l.length
  · rw [List.getElem?_append_left e] at h; exact .inl h
  · have hk := (List.getElem?_eq_some_iff.mp h).1
    rw [List.length_append] at hk
    have e2 : k = l.length := Nat.le_antisymm (Nat.le_of_lt_succ hk) (Nat.not_lt.mp e)
    subst e2
    rw [List.getElem?_concat_length] at h
    exact .inr ⟨rfl, (Option.some.inj h).symm⟩
theorem caps_snoc {R : List TRow} {row : TRow} {ns : List Nat} {x : Nat} (hl : ns.length = R.length) (h : ∀ (k : Nat) (r : TRow) (x : Nat), R[k]? = some r → ns[k]? = some x → x ≤ capOf r) (hx : x ≤ capOf row) :
    ∀ (k : Nat) (r : TRow) (y : Nat), (R ++ [row])[k]? = some r → (ns ++ [x])[k]? = some y → y ≤ capOf r := by
  intro k r y hr hy
  rcases get_snoc hr with h1 | ⟨h1, e⟩
  · rcases get_snoc hy with h2 | ⟨h2, e2⟩
    · exact h k r y h1 h2
    · exact absurd (List.getElem?_eq_some_iff.mp h1).1 (by rw [h2, hl]; exact Nat.lt_irrefl _)
  · rcases get_snoc hy with h2 | ⟨h2, e2⟩
    · exact absurd (List.getElem?_eq_some_iff.mp h2).1 (by rw [h1, hl]; exact Nat.lt_irrefl _)
    · rw [e, e2]; exact hx

theorem ext_snoc (R : List TRow) (row : TRow) : Ext R (R ++ [row]) := fun k r h => by
  rw [List.getElem?_append_left (List.getElem?_eq_some_iff.mp h).1]; exact h
theorem only_snoc (R : List TRow) (row : TRow) : Only R (R ++ [row]) row := fun _ _ h => (get_snoc h).imp id And.right
theorem len_snoc {α : Type} (l : List α) (x : α) : (l ++ [x]).length = l.length + 1 := List.length_append

theorem idx_ne {w : World} {h₀ h : Heap} {L d dx : Addr} {news : List (Addr × Obj)} {D : List (PyData × PyData)} {q : Int} {k : Str} {u : Tok} {v : Value} {es : List DictEntry} {n : Nat} (N : News h₀ L h news) (T : IdxTab w news d D)
    (hx : (dx, dictOf (⟨q, .str k u, v⟩ :: es) n) ∈ news) : dx ≠ d := by
  intro e
  subst e
  obtain ⟨lo, o, es', ep, xs, hm, hc, hd, he, hn, hk, hf⟩ := T
  have h1 := (N _ hm).1
  rw [(N _ hx).1] at h1
  cases h1

  cases hd

  cases xs with
  | nil => cases he
  | cons x xs =>
    exact nomatch congrArg DictEntry.key (List.cons.inj he).1
/-! the objects of a table, while it is changed -/
def TupSub (news news' : List (Addr × Obj)) : Prop := ∀ a vs n, (a, tupOf vs n) ∈ news → (a, tupOf vs n) ∈ news'
def Kept (T : KtA) (news news' : List (Addr × Obj)) : Prop := TupSub news news' ∧ ∀ p ∈ news, T.Off p.1 → p ∈ news'
theorem Kept.trans {T : KtA} {n1 n2 n3 : List (Addr × Obj)} (h : Kept T n1 n2) (h' : Kept T n2 n3) : Kept T n1 n3 := ⟨fun a vs n q => h'.1 a vs n (h.1 a vs n q), fun p hp o => h'.2 p (h.2 p hp o) o⟩
theorem Kept.of {T : KtA} {n1 n2 : List (Addr × Obj)} (h : ∀ p ∈ n1, p ∈ n2) : Kept T n1 n2 := ⟨fun _ _ _ q => h _ q, fun p hp _ => h p hp⟩
structure KtL (w : World) (T : KtA) (rv : List Value) (nr : Nat) (dv : List Value) (nd : Nat) (wv : List Value) (nw : Nat) (ov : List Value) (no : Nat) (D : List (PyData × PyData)) (news : List (Addr × Obj)) : Prop where
  kt : KtAt news T.kt T.rows T.idx T.dep T.wei T.opn
  ne : T.rows ≠ T.dep ∧ T.rows ≠ T.wei ∧ T.rows ≠ T.opn ∧ T.dep ≠ T.wei ∧ T.dep ≠ T.opn ∧ T.wei ≠ T.opn
  idx : IdxTab w news T.idx D
  rows : (T.rows, W.listOf rv.toArray nr) ∈ news
  dep : (T.dep, W.listOf dv.toArray nd) ∈ news
  wei : (T.wei, W.listOf wv.toArray nw) ∈ news
  opn : (T.opn, W.listOf ov.toArray no) ∈ news
section
variable {w : World} {T : KtA} {rv dv wv ov : List Value} {nr nd nw no : Nat} {D : List (PyData × PyData)} {h₀ h : Heap} {L : Addr} {news news' : List (Addr × Obj)}
theorem KtL.mono (K : KtL w T rv nr dv nd wv nw ov no D news) (hs : ∀ p ∈ news, p ∈ news') : KtL w T rv nr dv nd wv nw ov no D news' :=
  ⟨K.kt.mono hs, K.ne, K.idx.mono hs, hs _ K.rows, hs _ K.dep, hs _ K.wei, hs _ K.opn⟩
theorem KtL.monoN (K : KtL w T rv nr dv nd wv nw ov no D news) (_ : News h₀ L h news') (hs : ∀ p ∈ news, p ∈ news') : KtL w T rv nr dv nd wv nw ov no D news' := K.mono hs
theorem row2_of {a : Addr} (s x : Nat) {t1 t2 : Tok} {n : Nat} (_ : News h₀ L h news) (hm : (a, tupOf [.int (s : Int) t1, .int (x : Int) t2] n) ∈ news) : RowIn news (.ref a) (.two s x) := ⟨_, _, _, _, rfl, hm⟩
/-- what a change of a list of the table leaves -/
theorem KtL.mv (K : KtL w T rv nr dv nd wv nw ov no D news) (N : News h₀ L h news) {x : Addr} {o : Obj} (hx : (x, o) ∈ news) (hc : o.cls = .type "list") (hT : ∀ a, T.Off a → a ≠ x) (s : ∀ p ∈ news, p.1 ≠ x → p ∈ news') :
    KtAt news' T.kt T.rows T.idx T.dep T.wei T.opn ∧ IdxTab w news' T.idx D ∧ Kept T news news' := by
  have hk : TupSub news news' := fun a vs n q => s _ q (obj_ne N q hx (by rw [hc]; exact cls_ne (by decide)))
  refine ⟨K.kt.rec fun dx h1 h2 h3 h4 h5 t1 t2 t3 t4 t5 n hm hd => ⟨dx, h1, h2, h3, h4, h5, t1, t2, t3, t4, t5, n, s _ hm (obj_ne N hm hx (by rw [hc]; exact fun e => nomatch e)), s _ hd (obj_ne N hd hx (by rw [hc]; exact cls_ne (by decide)))⟩, ?_, hk, fun p hp o => s p hp (hT _ o)⟩
  · obtain ⟨o', ho', hc'⟩ := K.idx.mem
    exact K.idx.off hk fun o q => s _ q (obj_ne N ho' hx (by rw [hc, hc']; exact cls_ne (by decide)))
theorem KtL.setRows (K : KtL w T rv nr dv nd wv nw ov no D news) (N : News h₀ L h news) (s : ∀ p ∈ news, p.1 ≠ T.rows → p ∈ news') {rv' : List Value} {n : Nat} (hm : (T.rows, W.listOf rv'.toArray n) ∈ news') : KtL w T rv' n dv nd wv nw ov no D news' ∧ Kept T news news' :=
  have M := K.mv N K.rows rfl (fun _ o => o.1) s
  ⟨⟨M.1, K.ne, M.2.1, hm, s _ K.dep K.ne.1.symm, s _ K.wei K.ne.2.1.symm, s _ K.opn K.ne.2.2.1.symm⟩, M.2.2⟩
theorem KtL.setDep (K : KtL w T rv nr dv nd wv nw ov no D news) (N : News h₀ L h news) (s : ∀ p ∈ news, p.1 ≠ T.dep → p ∈ news') {dv' : List Value} {n : Nat} (hm : (T.dep, W.listOf dv'.toArray n) ∈ news') : KtL w T rv nr dv' n wv nw ov no D news' ∧ Kept T news news' :=
  have M := K.mv N K.dep rfl (fun _ o => o.2.2.1) s
  ⟨⟨M.1, K.ne, M.2.1, s _ K.rows K.ne.1, hm, s _ K.wei K.ne.2.2.2.1.symm, s _ K.opn K.ne.2.2.2.2.1.symm⟩, M.2.2⟩
theorem KtL.setWei (K : KtL w T rv nr dv nd wv nw ov no D news) (N : News h₀ L h news) (s : ∀ p ∈ news, p.1 ≠ T.wei → p ∈ news') {wv' : List Value} {n : Nat} (hm : (T.wei, W.listOf wv'.toArray n) ∈ news') : KtL w T rv nr dv nd wv' n ov no D news' ∧ Kept T news news' :=
  have M := K.mv N K.wei rfl (fun _ o => o.2.2.2.1) s
  ⟨⟨M.1, K.ne, M.2.1, s _ K.rows K.ne.2.1, s _ K.dep K.ne.2.2.2.1, hm, s _ K.opn K.ne.2.2.2.2.2.symm⟩, M.2.2⟩
theorem KtL.setOpn (K : KtL w T rv nr dv nd wv nw ov no D news) (N : News h₀ L h news) (s : ∀ p ∈ news, p.1 ≠ T.opn → p ∈ news') {ov' : List Value} {n : Nat} (hm : (T.opn, W.listOf ov'.toArray n) ∈ news') : KtL w T rv nr dv nd wv nw ov' n D news' ∧ Kept T news news' :=
  have M := K.mv N K.opn rfl (fun _ o => o.2.2.2.2) s
  ⟨⟨M.1, K.ne, M.2.1, s _ K.rows K.ne.2.2.1, s _ K.dep K.ne.2.2.2.2.1, s _ K.wei K.ne.2.2.2.2.2, hm⟩, M.2.2⟩
theorem KtL.setIdx (K : KtL w T rv nr dv nd wv nw ov no D news) (N : News h₀ L h news) (s : ∀ p ∈ news, p.1 ≠ T.idx → p ∈ news') {D' : List (PyData × PyData)} (hI : IdxTab w news' T.idx D') : KtL w T rv nr dv nd wv nw ov no D' news' ∧ Kept T news news' := by
  obtain ⟨o, ho, hc⟩ := K.idx.mem
  have hl : ∀ {x : Addr} {xs : List Value} {n : Nat}, (x, W.listOf xs.toArray n) ∈ news → (x, W.listOf xs.toArray n) ∈ news' := fun q => s _ q (obj_ne N q ho (by rw [hc]; exact cls_ne (by decide)))
  refine ⟨⟨K.kt.rec fun dx h1 h2 h3 h4 h5 t1 t2 t3 t4 t5 n hm hd => ⟨dx, h1, h2, h3, h4, h5, t1, t2, t3, t4, t5, n, s _ hm (obj_ne N hm ho (by rw [hc]; exact fun e => nomatch e)), s _ hd (idx_ne N K.idx hd)⟩, K.ne, hI, hl K.rows, hl K.dep, hl K.wei, hl K.opn⟩, fun a vs n q => s _ q (obj_ne N q ho (by rw [hc]; exact cls_ne (by decide))), fun p hp o => s p hp o.2.1⟩
theorem KtL.away (K : KtL w T rv nr dv nd wv nw ov no D news) (N : News h₀ L h news) {x : Addr} {o : Obj} {c : String} (hx : (x, o) ∈ news) (hc : o.cls = .type c) (h1 : c ≠ "list") (h2 : c ≠ "dict") (h3 : c ≠ "tuple") (s : ∀ p ∈ news, p.1 ≠ x → p ∈ news') :
    KtL w T rv nr dv nd wv nw ov no D news' ∧ TupSub news news' := by
  have hl : ∀ {y : Addr} {xs : List Value} {n : Nat}, (y, W.listOf xs.toArray n) ∈ news → (y, W.listOf xs.toArray n) ∈ news' := fun q => s _ q (obj_ne N q hx (by rw [hc]; exact cls_ne h1.symm))
  have ht : TupSub news news' := fun a vs n q => s _ q (obj_ne N q hx (by rw [hc]; exact cls_ne h3.symm))
  obtain ⟨o', ho', hc'⟩ := K.idx.mem
  exact ⟨⟨K.kt.rec fun dx h1 h2' h3 h4 h5 t1 t2 t3 t4 t5 n hm hd => ⟨dx, h1, h2', h3, h4, h5, t1, t2, t3, t4, t5, n, s _ hm (obj_ne N hm hx (by rw [hc]; exact fun e => nomatch e)), s _ hd (obj_ne N hd hx (by rw [hc]; exact cls_ne h2.symm))⟩, K.ne,
    K.idx.off ht fun o q => s _ q (obj_ne N ho' hx (by rw [hc, hc']; exact cls_ne h2.symm)), hl K.rows, hl K.dep, hl K.wei, hl K.opn⟩, ht⟩
theorem KtL.offOf (K : KtL w T rv nr dv nd wv nw ov no D news) {I : Addr} (h : ∀ p ∈ news, p.1 ≠ I) : T.Off I :=
  ⟨(h _ K.rows).symm, K.idx.mem.elim fun _ q => (h _ q.1).symm, (h _ K.dep).symm, (h _ K.wei).symm, (h _ K.opn).symm⟩
end
/-- a row more in the table -/
theorem ktokN_put {n16 : Nat} {w : World} {T : KtA} {R : List TRow} {row : TRow} {news fin : List (Addr × Obj)} {a : Addr} {vs dvs wvs ovs : List Value} {nr nd nw no : Nat} {ds ws os : List Nat} {d wt op : Nat} {td tw tp : Tok} {D : List (PyData × PyData)}
    (K : KtL w T (vs ++ [Value.ref a]) nr (dvs ++ [Value.int (d : Int) td]) nd (wvs ++ [Value.int (wt : Int) tw]) nw (ovs ++ [Value.int (op : Int) tp]) no (putD (enc (keyOf row)) (.int ((vs.length : Nat) : Int)) D) fin) (S : TupSub news fin)
    (hin : ∀ (k : Nat) (r : TRow), R[k]? = some r → ∃ v, vs[k]? = some v ∧ RowIn news v r) (hlen : vs.length = R.length) (hrow : RowIn news (.ref a) row) (hD : D.length ≤ R.length)
    (hlk : ∀ (r : TRow) (v : PyData), PySem.Spec.lookup (enc (keyOf r)) D = some v → ∃ k : Nat, v = .int (k : Int) ∧ R[k]? = some r)
    (hdi : IntsAre dvs (zs ds)) (hdl : ds.length = R.length) (hdc : ∀ (k : Nat) (r : TRow) (x : Nat), R[k]? = some r → ds[k]? = some x → x ≤ capOf r) (hd' : d ≤ capOf row)
    (hwi : IntsAre wvs (zs ws)) (hwl : ws.length = R.length) (hwc : ∀ (k : Nat) (r : TRow) (x : Nat), R[k]? = some r → ws[k]? = some x → x ≤ capOf r) (hw' : wt ≤ capOf row)
    (hoi : IntsAre ovs (zs os)) (hol : os.length = R.length) (h16 : ∀ k < n16, (R ++ [row])[k]? = some (.two 1 k)) : KTOkN n16 w T (R ++ [row]) fin := by
  refine ⟨K.kt, K.ne, ⟨_, _, K.rows, by rw [len_snoc, len_snoc, hlen], ?_⟩, ⟨_, K.idx, Nat.le_trans (putD_length_le _ _ D) (by rw [len_snoc]; exact Nat.succ_le_succ hD), ?_⟩, ⟨_, _, ds ++ [d], K.dep, ints_snoc hdi, by rw [len_snoc, len_snoc, hdl], caps_snoc hdl hdc hd'⟩,
    ⟨_, _, ws ++ [wt], K.wei, ints_snoc hwi, by rw [len_snoc, len_snoc, hwl], caps_snoc hwl hwc hw'⟩, ⟨_, _, os ++ [op], K.opn, ints_snoc hoi, by rw [len_snoc, len_snoc, hol]⟩, h16⟩
  · intro k r hr
    rcases get_snoc hr with h1 | ⟨h1, e⟩
    · obtain ⟨v, hv, hvr⟩ := hin k r h1
      exact ⟨v, by rw [List.getElem?_append_left (List.getElem?_eq_some_iff.mp hv).1]; exact hv, hvr.tups S⟩
    · exact ⟨.ref a, by rw [h1, ← hlen]; exact List.getElem?_concat_length, e ▸ hrow.tups S⟩
  · intro r v hv
    by_cases e : keyOf r = keyOf row
    · rw [e, lookup_putK_same keyEnc_row] at hv
      exact ⟨vs.length, (Option.some.inj hv).symm, by rw [keyOf_inj e, hlen]; exact List.getElem?_concat_length⟩
    · rw [lookup_putK_other keyEnc_row e] at hv
      exact (hlk r v hv).imp fun k q => ⟨q.1, ext_snoc R row _ _ q.2⟩
section
variable {w : World} {A : Around} {E : Value → Shared → Prop} {s : Shared} {h₀ : Heap} {L d a : Addr} {m : Str → Option Value} {news : List (Addr × Obj)} {D : List (PyData × PyData)} {ks : List KX}
theorem m_idxGetS {hp1 : Heap} {tk1 : Nat} {k dd : Int} {td : Tok} {Q : Value → Shared → Prop} (hu : A.units + 2 < cLine) (N : News h₀ L hp1 news) (T : IdxTab w news d D) (hk : KeyIn news ks a) (hl : PySem.Spec.lookup (enc ks) D = some (.int k))
    (h : ∀ t, Q (.int k t) { s with heap := hp1, toks := tk1 + rowDraws ks }) : wpAny (model PG w) A (call (.builtin "dict.get") [.ref d, .ref a, .int dd td]) Q E { s with heap := hp1, toks := tk1 } :=
  m_idxGet hu N T hk fun v hv => by
    rw [hl] at hv
    obtain ⟨t, e⟩ := hv.int_inv
    rw [e]; exact h t
theorem m_idxGetN {hp1 : Heap} {tk1 : Nat} {dd : Int} {td : Tok} {Q : Value → Shared → Prop} (hu : A.units + 2 < cLine) (N : News h₀ L hp1 news) (T : IdxTab w news d D) (hk : KeyIn news ks a) (hl : PySem.Spec.lookup (enc ks) D = none)
    (h : ∀ t, Q (.int dd t) { s with heap := hp1, toks := tk1 + rowDraws ks }) : wpAny (model PG w) A (call (.builtin "dict.get") [.ref d, .ref a, .int dd td]) Q E { s with heap := hp1, toks := tk1 } :=
  m_idxGet hu N T hk fun v hv => by
    rw [hl] at hv
    obtain ⟨t, e⟩ := hv.int_inv
    rw [e]; exact h t
end
end Mine

-- E7_put
namespace Mine
open PySem.Spec PyProof.V PySem.Calls
inductive PutJ (row : TRow) (c : Nat) (base : List (Addr × Obj)) (i : Nat) (vals : List Value) (news : List (Addr × Obj)) : Prop
  | mk (d wt op : Nat) (t1 t2 t3 : Tok) (e : vals = [.int (d : Int) t1, .int (wt : Int) t2, .int (op : Int) t3]) (hd : d ≤ capOf row) (hw : wt ≤ 1 + c * i) (hb : ∀ p ∈ base, p ∈ news) : PutJ row c base i vals news
theorem ints_get {vs : List Value} {ns : List Nat} {y n : Nat} (h : IntsAre vs (zs ns)) (hn : ns.length = n) (hy : y < n) : ∃ x t, ns[y]? = some x ∧ vs[y]? = some (.int ((x : Nat) : Int) t) := by
  have hy1 : y < vs.length := by rw [ints_len h, hn]; exact hy
  obtain ⟨x, t, h1, h2⟩ := ints_at h (List.getElem?_eq_getElem hy1)
  exact ⟨x, t, h1, by rw [List.getElem?_eq_getElem hy1, h2]⟩
theorem cap_le {r : TRow} : capOf r ≤ 9 := by
  cases r with
  | two s x => exact (apply_ite (· ≤ 9) _ 1 9).mpr (by split <;> decide)
  | three s t as => exact (apply_ite (· ≤ 9) _ 1 2).mpr (by split <;> decide)
  | four o mm as => exact Nat.le_refl 9
theorem cap_pos {r : TRow} : 1 ≤ capOf r := by
  cases r with
  | two s x => exact (apply_ite (1 ≤ ·) _ 1 9).mpr (by split <;> decide)
  | three s t as => exact (apply_ite (1 ≤ ·) _ 1 2).mpr (by split <;> decide)
  | four o mm as => exact Nat.le_add_left 1 8
theorem gt_no {d n m : Nat} (h : d ≤ n) (e : Nat.ble n m = true) : decide ((m : Int) < (d : Int)) = false := decide_eq_false fun q => absurd (Int.ofNat_lt.mp q) (Nat.not_lt.mpr (Nat.le_trans h (Nat.le_of_ble_eq_true e)))
theorem wt_le {wt wy c i : Nat} (h : wt ≤ 1 + c * i) (h' : wy ≤ c) : wt + wy ≤ 1 + c * (i + 1) := by
  rw [Nat.mul_succ, ← Nat.add_assoc]; exact Nat.add_le_add h h'
theorem zs_len {vs : List Value} {ns : List Nat} {R : List TRow} (h : IntsAre vs (zs ns)) (hn : ns.length = R.length) (hl : R.length < 1000) : vs.length ≤ 16384 := by
  rw [ints_len h, hn]; exact Nat.le_trans (Nat.le_of_lt hl) (by decide)
end Mine
local macro_rules | `(tactic| walk_at $k:str) => do
  if ["execs cons If", "subscriptTail", "isTrue BoolOp", "call builtin:len", "exec For Name Call cons nil", "call builtin:dict.get cons nil", "getAttr ref"].contains k.getString then `(tactic| refine Mine.hold_ ?_) else Lean.Macro.throwUnsupported
local macro_rules | `(tactic| walk_at "getMethod ref") => `(tactic| (k_here; (with_reducible show wpAny _ _ (getMethod (Value.ref _) (Str.ofString "get") _) _ _ _); refine Mine.hold_ ?_))
namespace Mine
open PySem.Spec PyProof.V PySem.Calls
set_option maxHeartbeats 16000000 in
theorem c_put {w : World} {T : KtA} {R : List TRow} {a : Addr} {row : TRow} {c : Nat} (hok : RowOkT R row) (hl : R.length < 1000) (hc : ∀ x ∈ ins row, ∀ r, R[x]? = some r → capOf r ≤ c) (hc1 : 1 + c * (ins row).length ≤ capOf row) (hc2 : c + lvlOf row ≤ capOf row) :
    Ctl w (.ref 76) [.ref T.kt, .ref a] 50 1000 (fun news => KTOk w T R news ∧ RowIn news (.ref a) row) (PutPost w T R row) := by
  unfold Ctl
  k_fill
  intro dp un gd cn cs' ax ccd cl outer A₀ base h₀ L m news s mean mg mb Q E B F X N TP hk hpre hroom hunits ret
  have hkt := hpre.1
  have hrow := hpre.2
  clear hpre
  refine hideG ?_
  intro P k9
  obtain ⟨vs, nr, hrows, hlen, hin⟩ := hkt.rows
  obtain ⟨D, hidx, hDl, hlk⟩ := hkt.idx
  obtain ⟨dvs, nd, ds, hdm, hdi, hdl, hdc⟩ := hkt.dep
  obtain ⟨wvs, nw, ws, hwm, hwi, hwl, hwc⟩ := hkt.wei
  obtain ⟨ovs, no, os, hom, hoi, hol⟩ := hkt.opn
  obtain ⟨a', ts, rest, rn, e, hra, _⟩ := row_hl hrow
  injection e with e
  subst e
  have K0 : KtL w T vs nr dvs nd wvs nw ovs no D news := ⟨hkt.kt, hkt.ne, hidx, hrows, hdm, hwm, hom⟩
  have hkey := keyIn_row hok.1.fit hrow
  have hvl : vs.length ≤ 16384 := by rw [hlen]; exact Nat.le_trans (Nat.le_of_lt hl) (by decide)
  refine k9 ?_
  clear k9
  refine wpAny_call ?_
  k_dflt ktr_enter
  with_reducible rename Fr _ _ _ _ => F1
  with_reducible rename News _ _ _ _ => N1
  with_reducible rename (hd.heap_1 w.params).In _ => X1
  replace F1 := fr_of (fun y => List.lookup y [(Str.ofString "row", Value.ref a), (Str.ofString "self", Value.ref T.kt)]) F1 (by with_unfolding_all rfl)
  k_steps
  unfold Hold
  k_dflt (refine' m_kt_index K0.kt F1 ?X N1 ?_; (case X => k_asm))
  k_steps
  unfold Hold
  k_dflt (refine' m_idxMethod N1 K0.idx ?_)
  k_steps
  unfold Hold
  cases hD : PySem.Spec.lookup (enc (keyOf row)) D with
  | some dv =>
    obtain ⟨k, e, hk9⟩ := hlk row dv hD
    rw [e] at hD
    k_dflt (refine' m_idxGetS ?u N1 K0.idx hkey hD ?_; (case u => ktr_units))
    intro t9
    k_steps
    unfold Hold
    with_reducible rename Fr _ _ _ _ => F2
    refine wpAny_execs_cons (wpAny_If ?_)
    k_dflt (refine' Mine.m_isT (x₀ := Str.empty) (vs := []) (fun h => absurd rfl h) F2 ?X (topRead_of ?T) rfl (.cast ?e (decide_eq_true (p := (0 : Int) ≤ (k : Int)) (Int.natCast_nonneg k))) ?_; (case X => k_asm); (case T => k_asm); (case e => walk_at "m_tst"))
    intro k2
    k_steps
    all_goals exact ret _ _ _ _ (by assumption) (by assumption) ⟨k, R, _, rfl, hkt, fun _ _ h => h, hk9, Nat.le_succ _, fun _ _ h => .inl h, fun p hp _ => hp⟩
  | none =>
    k_dflt (refine' m_idxGetN ?u N1 K0.idx hkey hD ?_; (case u => ktr_units))
    intro t9
    k_steps
    unfold Hold
    with_reducible rename Fr _ _ _ _ => F2
    with_reducible rename News _ _ _ _ => N2
    refine wpAny_execs_cons (wpAny_If ?_)
    k_dflt (refine' Mine.m_isF (x₀ := Str.empty) (vs := []) (fun h => absurd rfl h) F2 ?X (topRead_of ?T) rfl ?e ?_; (case X => k_asm); (case T => k_asm); (case e => walk_at "m_tst"))
    intro k2
    k_steps
    unfold Hold
    k_dflt (refine' Ctl.u0 (c_check hok hl) ?B ?F ?X ?N ?T ?hk ?hp ?d ?u ?_; walk_at "m_ctl"; (case hp => exact ⟨hkt, hrow⟩))
    intro h9 tk9 news9 F9 N9 s9
    clear hrows hdm hwm hom hidx
    k_steps
    unfold Hold
    with_reducible rename Fr _ _ _ _ => F3
    with_reducible rename News _ _ _ _ => N3
    refine wpAny_execs_cons ?_
    refine midI (Str.ofString "opened") (fun _ => True) F3 N3 ?_ ?_
    · intro op tko h10 k10 news10 _ F10 N10 s10
      have s11 := fun p hp => s10 p (s9 p hp)
      clear s10
      k_steps
      unfold Hold
      k_dflt (refine' m_itemTup N10 (s11 _ hra) (x := .int ((sortOf row : Nat) : Int) ts) (k := 0) rfl (Int.le_refl 0) (by decide) ?_)
      k_steps
      unfold Hold
      k_dflt (refine' Ctl.u1 (c_rlev (lvlOf row) (lvl_ok hok.1)) ?B ?F ?X ?N ?T ?hk ?hp ?d ?u ?_; walk_at "m_ctl"; (case hp => exact trivial))
      intro tl h12 tk12 news12 F12 N12 s12
      k_steps
      unfold Hold
      with_reducible rename Fr _ _ _ _ => F13
      with_unfolding_all refine' For_invVF F13 rfl rfl ?_
      k_steps
      unfold Hold
      k_dflt (refine' Ctl.use (c_inner hok.1) ?B ?F ?X ?N ?T ?hk ?hp ?d ?u ?_; walk_at "m_ctl"; (case hp => exact hrow.mono fun p hp => s12 p (s11 p hp)))
      intro r h14 tk14 news14 F14 N14 p14
      have s15 := fun p hp => p14.2 p (s12 p (s11 p hp))
      refine hideG ?_
      intro P k9
      obtain ⟨⟨ia, ivs, inn, er, him, hii⟩, _⟩ := p14
      subst er
      refine k9 ?_
      clear k9
      k_steps
      unfold Hold
      refine' m_forT (x := Str.ofString "inner") (lo := tupOf ivs inn) (vs := ivs) (k := inn) [Str.ofString "depth", Str.ofString "weight", Str.ofString "opened"] [] [_, _, _] (PutJ row c news) rfl him rfl rfl F14 N14 ?hj ?hm ?turn ?done
      case hm =>
        intro p hp
        simp only [List.zip_cons_cons, List.zip_nil_left, List.mem_cons, List.not_mem_nil, or_false] at hp
        rcases hp with rfl | rfl | rfl <;> rfl
      case hj => exact ⟨1, 1, op, _, _, _, rfl, cap_pos, Nat.le_add_right _ _, s15⟩
      case turn =>
        intro I i v it h tk vals u news₁ hI hv hic hoff hlm hJ F2 N2 K hK
        refine hideG ?_
        intro P k9
        obtain ⟨d, wt, op, t1, t2, t3, e9, hd9, hw9, hbase⟩ := hJ
        obtain ⟨y, ta, ha, e8⟩ := ints_at hii hv
        subst e9 e8
        obtain ⟨r, hr, hbr⟩ := hok.2.1 y (List.mem_of_getElem? ha)
        have hyR := (List.getElem?_eq_some_iff.mp hr).1
        obtain ⟨dy, tdy, hdy, hdv⟩ := ints_get hdi hdl hyR
        obtain ⟨wy, twy, hwy, hwv⟩ := ints_get hwi hwl hyR
        obtain ⟨oy, toy, hoy, hov⟩ := ints_get hoi hol hyR
        have hcy := hc y (List.mem_of_getElem? ha) r hr
        have hd8 := Nat.le_trans (Nat.add_le_add_right (Nat.le_trans (hdc y r dy hr hdy) hcy) _) hc2
        have hw8 := wt_le hw9 (Nat.le_trans (hwc y r wy hr hwy) hcy)
        have K1 := K0.mono (news' := (I, it) :: news₁) fun p hp => .tail _ (hbase p hp)
        have hy63 : y < 1000 := Nat.lt_trans hyR hl
        refine k9 ?_
        clear k9 F14 N14 hv
        k_steps
        unfold Hold
        refine wpAny_execs_cons ?_
        refine midI (Str.ofString "depth") (· ≤ capOf row) F2 N2 ?_ ?_
        · intro d2 td2 h3 k3 news3 hd3 F3 N3 s3
          k_steps
          unfold Hold
          k_dflt (refine' m_kt_weights (K1.kt.mono s3) F3 ?X N3 ?_; (case X => k_asm))
          k_steps
          unfold Hold
          k_dflt (refine' m_itemL N3 (s3 _ K1.wei) hwv (Int.natCast_nonneg _) (n63 hy63 rfl) ?_)
          k_steps
          unfold Hold
          with_reducible rename Fr _ _ _ _ => F4
          with_reducible rename News _ _ _ _ => N4
          refine wpAny_execs_cons ?_
          refine midI (Str.ofString "opened") (fun _ => True) F4 N4 ?_ ?_
          · intro op2 to2 h5 k5 news5 _ F5 N5 s5
            have s6 := fun p hp => s5 p (s3 p hp)
            k_steps
            unfold Hold KP
            exact hK .next _ (MEnd.of F5 N5 (s6 _ (.head _)) (fun p hp => by rw [List.mem_singleton.mp hp]; exact s6 _ (.tail _ hlm)) rfl (fun z g1 _ g3 => by
                simp only [List.contains_cons, List.contains_nil, Bool.or_false, Bool.or_eq_false_iff, beq_eq_false_iff_ne] at g3
                simp [g1, g3, setN]) ⟨d2, wt + wy, op2, _, _, _, rfl, hd3, hw8, fun p hp => mem_offI.mpr ⟨s6 _ (.tail _ (hbase p hp)), hoff p (hbase p hp)⟩⟩)
          · intro K2 hK2
            refine wpAny_If ?_
            k_steps
            unfold Hold
            k_dflt (refine' m_kt_opens (K1.kt.mono s3) F4 ?X N4 ?_; (case X => k_asm))
            k_steps
            unfold Hold
            k_dflt (refine' m_itemL N4 (s3 _ K1.opn) hov (Int.natCast_nonneg _) (n63 hy63 rfl) ?_)
            k_steps
            all_goals unfold Hold KP
            · exact hK2 _ (.mk 1 trivial (by assumption) (by assumption) fun _ h => h)
            · exact hK2 _ (.keep op trivial rfl (by assumption) (by assumption) fun _ h => h)
        · intro K2 hK2
          refine wpAny_If ?_
          k_steps
          unfold Hold
          k_dflt (refine' m_kt_depths K1.kt F2 ?X N2 ?_; (case X => k_asm))
          k_steps
          unfold Hold
          k_dflt (refine' m_itemL N2 K1.dep hdv (Int.natCast_nonneg _) (n63 hy63 rfl) ?_)
          k_steps
          · unfold Hold
            k_dflt (refine' m_kt_depths K1.kt F2 ?X N2 ?_; (case X => k_asm))
            k_steps
            unfold Hold
            k_dflt (refine' m_itemL N2 K1.dep hdv (Int.natCast_nonneg _) (n63 hy63 rfl) ?_)
            k_steps
            unfold Hold KP
            exact hK2 _ (.mk (dy + lvlOf row) hd8 (by assumption) (by assumption) fun _ h => h)
          · unfold Hold KP
            exact hK2 _ (.keep d hd9 rfl (by assumption) (by assumption) fun _ h => h)
      case done =>
        intro vals u news₁ h tk hJ hlm F2 N2
        refine hideG ?_
        intro P k9
        obtain ⟨d, wt, op, t1, t2, t3, e9, hd9, hw9, hbase⟩ := hJ
        subst e9
        rw [ints_len hii] at hw9
        have hw8 := Nat.le_trans hw9 hc1
        have K1 := K0.mono hbase
        have hkey1 := hkey.mono hbase
        refine k9 ?_
        clear k9 F14 N14
        k_steps
        unfold Hold
        k_dflt (refine' Mine.m_ifF F2 ?X (topRead_of ?T) rfl (.cast ?e (gt_no (m := 24) (Nat.le_trans hd9 cap_le) rfl)) ?_; (case X => k_asm); (case T => k_asm); (case e => walk_at "m_tst"))
        k_dflt (refine' Mine.m_ifF F2 ?X (topRead_of ?T) rfl (.cast ?e (gt_no (m := 4096) (Nat.le_trans hw8 cap_le) rfl)) ?_; (case X => k_asm); (case T => k_asm); (case e => walk_at "m_tst"))
        k_steps
        unfold Hold
        k_dflt (refine' m_kt_rows K1.kt F2 ?X N2 ?_; (case X => k_asm))
        k_steps
        unfold Hold
        k_dflt (refine' m_lenL N2 K1.rows hvl ?_)
        k_steps
        unfold Hold
        with_reducible rename Fr _ _ _ _ => F3
        with_reducible rename News _ _ _ _ => N3
        k_dflt (refine' m_kt_rows K1.kt F3 ?X N3 ?_; (case X => k_asm))
        have hr1 := K1.rows
        k_steps
        unfold Hold
        k_dflt (refine' m_append F3 N3 hr1 hvl ?_)
        intro h4 n4 F4 N4 m4 s4
        have K4 := K1.setRows N3 s4 m4
        have hkey4 := hkey1.tups K4.2.1
        clear hr1
        k_steps
        unfold Hold
        k_dflt (refine' m_kt_index K4.1.kt F4 ?X N4 ?_; (case X => k_asm))
        k_steps
        unfold Hold
        k_dflt (refine' m_idxSet ?u F4 N4 K4.1.idx hkey4 ?_ ?_; (case u => ktr_units))
        · exact Nat.le_trans hDl (Nat.le_trans (Nat.le_of_lt hl) (by decide))
        intro h5 n5 F5 N5 i5 s5
        have K5 := K4.1.setIdx N4 s5 i5
        k_steps
        unfold Hold
        k_dflt (refine' m_kt_depths K5.1.kt F5 ?X N5 ?_; (case X => k_asm))
        have hd5 := K5.1.dep
        k_steps
        unfold Hold
        k_dflt (refine' m_append F5 N5 hd5 (zs_len hdi hdl hl) ?_)
        intro h6 n6 F6 N6 m6 s6
        have K6 := K5.1.setDep N5 s6 m6
        clear hd5
        k_steps
        unfold Hold
        k_dflt (refine' m_kt_weights K6.1.kt F6 ?X N6 ?_; (case X => k_asm))
        have hw6 := K6.1.wei
        k_steps
        unfold Hold
        k_dflt (refine' m_append F6 N6 hw6 (zs_len hwi hwl hl) ?_)
        intro h7 n7 F7 N7 m7 s7
        have K7 := K6.1.setWei N6 s7 m7
        clear hw6
        k_steps
        unfold Hold
        k_dflt (refine' m_kt_opens K7.1.kt F7 ?X N7 ?_; (case X => k_asm))
        have ho7 := K7.1.opn
        k_steps
        unfold Hold
        k_dflt (refine' m_append F7 N7 ho7 (zs_len hoi hol hl) ?_)
        intro h8 n8 F8 N8 m8 s8
        have K8 := K7.1.setOpn N7 s8 m8
        have T8 := ((((Kept.of (T := T) hbase).trans K4.2).trans K5.2).trans K6.2).trans (K7.2.trans K8.2)
        clear ho7
        k_steps
        all_goals exact ret _ _ _ _ (by assumption) (by assumption) ⟨R.length, R ++ [row], _, by rw [← hlen], ktokN_put K8.1 T8.1 hin hlen hrow hDl hlk hdi hdl hdc hd9 hwi hwl hwc hw8 hoi hol (fun k hk => ext_snoc R row _ _ (hkt.prim k hk)), ext_snoc R row, List.getElem?_concat_length, Nat.le_of_eq (len_snoc _ _), only_snoc R row, T8.2⟩
    · intro K2 hK2
      refine wpAny_If ?_
      k_dflt (refine' Mine.m_is2 (b := (((sortOf row : Nat) : Int) == 6 || (((sortOf row : Nat) : Int) == 7 || false))) (x₀ := Str.ofString "row") (fun _ => ⟨_, rfl, _, (N3 _ (s9 _ hra)).1, rfl, _, rfl⟩) F3 ?X (topRead_of ?T) rfl ?e ?_ ?_; (case X => k_asm); (case T => k_asm); (case e => walk_at "m_tst"))
      · intro k3
        k_steps
        unfold Hold KP
        exact hK2 _ (.mk 1 trivial (by assumption) (by assumption) fun _ h => h)
      · intro k3
        k_steps
        unfold Hold KP
        exact hK2 _ (.keep 0 trivial rfl (by assumption) (by assumption) fun _ h => h)
end Mine

end
theorem Mine.top_offNE7 : True := by w_top off; trivial
theorem Mine.turnNE7 {M : Model} {A : Around} {env : Env} {Q : Flow → Shared → Prop} {E : Value → Shared → Prop} {s : Shared} (h : Q .next s) : wpAny M A (execs [] env) Q E s := by walk1; exact h
section
-- E8_forR
namespace Mine
open PySem.Spec PyProof.V PySem.Calls
section
variable {prog : Program} {w : World} {A : Around} {E : Value → Shared → Prop} {s : Shared} {env : Env} {h₀ : Heap} {x : Str} {body : List Stmt} {Q : Flow → Shared → Prop}
theorem ne_lt {l : List (Addr × Obj)} {d : Addr} (h : ∀ p ∈ l, p.1 < d) : ∀ p ∈ l, p.1 ≠ d := fun p hp => Nat.ne_of_lt (h p hp)
/-- a loop over a range -/
theorem m_forR {hp : Heap} {tk0 : Nat} {r : Addr} {a₀ b₀ : Int} {t₀ u₀ v₀ : Tok} {n : Nat} {m₀ : Str → Option Value} {news : List (Addr × Obj)} (names stored : List Str) (vals₀ : List Value)
    (J : Nat → List Value → List (Addr × Obj) → Prop)
    (hh : A.handled = none) (hr : IsRange hp r a₀ b₀ 1 t₀ u₀ v₀) (hsmall : Builtin.Range.small a₀ b₀ 1 = true) (hn : Builtin.Range.rangeSize a₀ b₀ 1 = (n : Int))
    (F : Fr h₀ env.locals hp m₀) (N : News h₀ env.locals hp news) (hj : J 0 vals₀ news) (hm₀ : ∀ p ∈ names.zip vals₀, m₀ p.1 = some p.2)
    (turn : ∀ I i t it h tk vals (u : Str → Option Value) news₁, (∀ p ∈ news, p.1 < I) → i < n → it.cls = .type "range_iterator" → (∀ p ∈ news₁, p.1 ≠ I) → J i vals news₁ →
      Fr h₀ env.locals h (fun z => if z = x then some (.int (a₀ + (i : Int)) t) else if stored.contains z then u z else setN (names.zip vals) m₀ z) → News h₀ env.locals h ((I, it) :: news₁) →
      ∀ K : Flow → Shared → Prop, (∀ f s', MPost h₀ env.locals x names stored m₀ (J (i + 1)) I it [] { s with heap := h, toks := tk } Q f s' → K f s') → wpAny (model prog w) A (execs body env) (KP K) E { s with heap := h, toks := tk })
    (done : ∀ vals (u : Str → Option Value) news₁ h tk, J n vals news₁ → Fr h₀ env.locals h (fun z => if z = x then u z else if stored.contains z then u z else setN (names.zip vals) m₀ z) → News h₀ env.locals h news₁ → Q .next { s with heap := h, toks := tk }) :
    wpAny (model prog w) A (pyIter (.ref r)) (fun it s₂ => LoopAtV prog w A h₀ env x body Q E it s₂) E { s with heap := hp, toks := tk0 } := by
  refine wpAny_pyIter_range hr hsmall ?_
  have W : Walks prog w A hp.objs.size [hp.objs.size] [hp.objs.size] n (fun i v => i < n ∧ ∃ t, v = .int (a₀ + i * 1) t)
      (fun i h => IsRangeIter h hp.objs.size (a₀ + (i : Nat) * 1) ((n : Int) - (i : Nat)) 1) := (Walks.range hh _ a₀ 1 n).bound
  refine m_loop (fix := []) (itc := "range_iterator") names stored vals₀ J W ?_ (next_is_new F) ?_ (fun _ h => nomatch h) (fun p hp => Nat.ne_of_lt (Heap.lt_size (N p hp).1)) (.head _) (fun i h st => ⟨_, st, rfl⟩) (by show IsRangeIter _ _ _ _ _; rw [hn]; simpa using Heap.get?_push_size _ rfl) (F.push _) (fun p hp => ⟨Heap.get?_push_of_some _ (N p hp).1, (N p hp).2⟩) hj (fun z _ _ => setN_self hm₀ z) ?_ ?_
  · intro hm
    exact absurd F.ns.lt ((List.mem_singleton.mp hm) ▸ Nat.lt_irrefl _)
  · intro b hb
    exact .inl (List.mem_singleton.mp hb)
  · rintro i v it h tk vals u news₁ hi ⟨_, t, e⟩ hic hoff hf hJ F₁ N₁
    subst e
    refine turn _ i t it h tk vals u news₁ (fun p hp => Heap.lt_size (N p hp).1) hi hic hoff hJ ?_ N₁
    rw [Int.mul_one] at F₁
    exact F₁
  · intro vals u news₁ h tk hJ _ F₁ N₁
    exact done vals u news₁ h tk hJ F₁ N₁
end
end Mine

-- E8_new
local macro_rules | `(tactic| walk_at "getAttr ref") => `(tactic| refine Mine.hold_ ?_)
local macro_rules | `(tactic| k_all) => `(tactic| exact Mine.ne_lt (by assumption))
namespace Mine
open PySem.Spec PyProof.V PySem.Calls
def NewPost (w : World) (news : List (Addr × Obj)) (r : Value) (news' : List (Addr × Obj)) : Prop :=
  ∃ T R, r = .ref T.kt ∧ KTOk w T R news' ∧ R.length = 16 ∧ (∀ p ∈ news, p ∈ news') ∧ ∀ p ∈ news, T.Off p.1
theorem units_make (A : Around) (args : Args) : (A.under (.builtin "type.__call__" args)).units = A.units + 1 := by
  first | rfl | simp [Around.under, Code.cUnits, Code.frames, Code.isFrame]
def prims (n : Nat) : List TRow := (List.range n).map fun k => .two 1 k
theorem prims_succ (n : Nat) : prims (n + 1) = prims n ++ [.two 1 n] := by rw [prims, List.range_succ, List.map_append]; rfl
theorem prims_len (n : Nat) : (prims n).length = n := by rw [prims, List.length_map, List.length_range]
theorem prims_get {n k : Nat} (h : k < n) : (prims n)[k]? = some (.two 1 k) := by
  unfold prims
  rw [List.getElem?_map, List.getElem?_range h]; rfl
def NewJ (w : World) (T : KtA) (base : List (Addr × Obj)) (i : Nat) (vals : List Value) (news : List (Addr × Obj)) : Prop :=
  vals = [] ∧ KTOkN i w T (prims i) news ∧ ∀ p ∈ base, p ∈ news
theorem prims_no {n : Nat} {D : List (PyData × PyData)} (h : ∀ (r : TRow) (v : PyData), PySem.Spec.lookup (enc (keyOf r)) D = some v → ∃ k : Nat, v = .int (k : Int) ∧ (prims n)[k]? = some r) : PySem.Spec.lookup (enc (keyOf (.two 1 n))) D = none := by
  cases e : PySem.Spec.lookup (enc (keyOf (.two 1 n))) D with
  | none => rfl
  | some v =>
    obtain ⟨k, _, h2⟩ := h _ v e
    have h3 := (List.getElem?_eq_some_iff.mp h2).1
    rw [prims_len] at h3
    rw [prims_get h3] at h2
    cases h2
    exact absurd h3 (Nat.lt_irrefl _)
theorem off_of {T : KtA} {a dx : Addr} (h : a < dx) (o : @LT.lt Nat _ dx T.rows ∧ @LT.lt Nat _ dx T.idx ∧ @LT.lt Nat _ dx T.dep ∧ @LT.lt Nat _ dx T.wei ∧ @LT.lt Nat _ dx T.opn) : T.Off a :=
  ⟨Nat.ne_of_lt (Nat.lt_trans h o.1), Nat.ne_of_lt (Nat.lt_trans h o.2.1), Nat.ne_of_lt (Nat.lt_trans h o.2.2.1), Nat.ne_of_lt (Nat.lt_trans h o.2.2.2.1), Nat.ne_of_lt (Nat.lt_trans h o.2.2.2.2)⟩
/-- the table at its start -/
theorem new_start {w : World} {T : KtA} {news : List (Addr × Obj)} (hkt : KtAt news T.kt T.rows T.idx T.dep T.wei T.opn) (hne : T.rows ≠ T.dep ∧ T.rows ≠ T.wei ∧ T.rows ≠ T.opn ∧ T.dep ≠ T.wei ∧ T.dep ≠ T.opn ∧ T.wei ≠ T.opn)
    (hr : (T.rows, W.listOf #[] 0) ∈ news) (hd : (T.dep, W.listOf #[] 0) ∈ news) (hw : (T.wei, W.listOf #[] 0) ∈ news) (ho : (T.opn, W.listOf #[] 0) ∈ news) {ob : Obj} (hi : (T.idx, ob) ∈ news) (hob : ob.IsDictOf (intKind PG w) []) (lo : (T.idx == sysModules) = false) : KTOkN 0 w T (prims 0) news :=
  ⟨hkt, hne, ⟨[], 0, hr, rfl, fun k r e => nomatch e⟩, ⟨[], IdxTab.ofEmpty hi lo hob, Nat.zero_le _, fun r v e => nomatch e⟩, ⟨[], 0, [], hd, .nil, rfl, fun k r x e => nomatch e⟩, ⟨[], 0, [], hw, .nil, rfl, fun k r x e => nomatch e⟩, ⟨[], 0, [], ho, .nil, rfl⟩, fun k hk => absurd hk (Nat.not_lt_zero k)⟩
set_option maxHeartbeats 16000000 in
theorem c_new {w : World} : Ctl w (.ref 79) [] 30 600 (fun _ => True) (NewPost w) := by
  unfold Ctl
  k_fill
  intro dp un gd cn cs' ax ccd cl outer A₀ base h₀ L m news s mean mg mb Q E B F X N TP hk hpre hroom hunits ret
  k_dflt (refine' call_cls ?k1 ?k2 ?k3 ?k4 ?k5 ?k6 ?_; (case k1 => k_asm); (case k2 => k_asm); (case k3 => k_asm); (case k4 => k_is); (case k5 => k_is); (case k6 => k_is); k_whole)
  intro kt dx h' F' N' l1 l2
  k_lt2 l2
  k_dflt ktr_enter
  with_reducible rename Fr _ _ _ _ => F1
  replace F1 := fr_of (fun y => List.lookup y [(Str.ofString "self", Value.ref kt)]) F1 (by with_unfolding_all rfl)
  k_steps
  unfold Hold
  with_reducible rename Obj.IsDictOf (intKind _ _) _ _ => hi1
  with_reducible rename (_ == sysModules) = false => lo1
  with_reducible rename News _ _ _ _ => N1
  with_reducible rename Fr _ _ _ _ => F1
  with_reducible rename IsRange _ _ _ _ _ _ _ _ => hr1
  refine hideG ?_
  intro P k9
  obtain ⟨T, nw, eT, Nw, h0, o0, hbase⟩ : ∃ (T : KtA) (nw : List (Addr × Obj)), T.kt = kt ∧ News _ _ _ nw ∧ KTOkN 0 w T (prims 0) nw ∧ (@LT.lt Nat _ dx T.rows ∧ @LT.lt Nat _ dx T.idx ∧ @LT.lt Nat _ dx T.dep ∧ @LT.lt Nat _ dx T.wei ∧ @LT.lt Nat _ dx T.opn) ∧ ∀ p ∈ news, p ∈ nw :=
    ⟨⟨kt, _, _, _, _, _⟩, _, rfl, N1, new_start ⟨dx, _, _, _, _, _, _, _, _, _, _, _, .tail _ (.tail _ (.tail _ (.tail _ (.tail _ (.head _))))), .tail _ (.tail _ (.tail _ (.tail _ (.tail _ (.tail _ (.head _))))))⟩ ⟨by k_ne, by k_ne, by k_ne, by k_ne, by k_ne, by k_ne⟩ (.tail _ (.tail _ (.tail _ (.tail _ (.head _))))) (.tail _ (.tail _ (.head _))) (.tail _ (.head _)) (.head _)
      (.tail _ (.tail _ (.tail _ (.head _)))) hi1 lo1, ⟨by (dsimp only; omega), by (dsimp only; omega), by (dsimp only; omega), by (dsimp only; omega), by (dsimp only; omega)⟩, fun p hp => .tail _ (.tail _ (.tail _ (.tail _ (.tail _ (.tail _ (.tail _ hp))))))⟩
  subst eT
  refine k9 ?_
  clear k9 N1 hi1 lo1
  refine m_forR (x := Str.ofString "number") (n := 16) [] [Str.ofString "row"] [] (NewJ w T news) rfl hr1 (by decide) (by decide) F1 Nw ⟨rfl, h0, hbase⟩ (fun _ h => nomatch h) ?_ ?_
  · intro I i tn it h tk vals u news₁ hI hi16 hic hoff hJ F2 N2 K hK
    refine hideG ?_
    intro P k9
    obtain ⟨e9, hT, hbase1⟩ := hJ
    subst e9
    obtain ⟨vs, nr, hrows, hlen, hin⟩ := hT.rows
    obtain ⟨D, hidx, hDl, hlk⟩ := hT.idx
    obtain ⟨dvs, nd, ds, hdm, hdi, hdl, hdc⟩ := hT.dep
    obtain ⟨wvs, nw', ws, hwm, hwi, hwl, hwc⟩ := hT.wei
    obtain ⟨ovs, no, os, hom, hoi, hol⟩ := hT.opn
    have K0 : KtL w T vs nr dvs nd wvs nw' ovs no D news₁ := ⟨hT.kt, hT.ne, hidx, hrows, hdm, hwm, hom⟩
    have hIoff := K0.offOf hoff
    have hlD := prims_no hlk
    have hx : ∀ {n : Nat}, n = (prims i).length → n ≤ 16384 := fun e => by rw [e, prims_len]; exact Nat.le_trans (Nat.le_of_lt hi16) (by decide)
    have hz1 := hx hlen
    have hz2 := hx ((ints_len hdi).trans hdl)
    have hz3 := hx ((ints_len hwi).trans hwl)
    have hz4 := hx ((ints_len hoi).trans hol)
    refine k9 ?_
    clear F1 Nw hr1 k9 hrows hdm hwm hom hidx
    simp only [Int.zero_add] at F2
    k_steps
    unfold Hold
    with_reducible rename Fr _ _ _ _ => F3
    with_reducible rename News _ _ _ _ => N3
    have K1 := K0.monoN N3 fun p hp => .tail _ (.tail _ hp)
    have hrow3 := row2_of 1 i N3 (.head _)
    have hkey3 := keyIn_row (r := .two 1 i) ⟨by decide, by decide⟩ hrow3
    k_dflt (refine' m_kt_rows K1.kt F3 ?X N3 ?_; (case X => k_asm))
    have hr1 := K1.rows
    k_steps
    unfold Hold
    k_dflt (refine' m_append F3 N3 hr1 hz1 ?_)
    intro h4 n4 F4 N4 m4 s4
    have K4 := K1.setRows N3 s4 m4
    have hkey4 := hkey3.tups K4.2.1
    clear hr1
    k_steps
    unfold Hold
    k_dflt (refine' m_kt_index K4.1.kt F4 ?X N4 ?_; (case X => k_asm))
    k_steps
    unfold Hold
    k_dflt (refine' m_idxSet ?u F4 N4 K4.1.idx hkey4 (Nat.le_trans hDl (hx rfl)) ?_; (case u => (simp only [Around.deeper_units, units_make]; ktr_units)))
    intro h5 n5 F5 N5 i5 s5
    have K5 := K4.1.setIdx N4 s5 i5
    k_steps
    unfold Hold
    k_dflt (refine' m_kt_depths K5.1.kt F5 ?X N5 ?_; (case X => k_asm))
    have hd5 := K5.1.dep
    k_steps
    unfold Hold
    k_dflt (refine' m_append F5 N5 hd5 hz2 ?_)
    intro h6 n6 F6 N6 m6 s6
    have K6 := K5.1.setDep N5 s6 m6
    clear hd5
    k_steps
    unfold Hold
    k_dflt (refine' m_kt_weights K6.1.kt F6 ?X N6 ?_; (case X => k_asm))
    have hw6 := K6.1.wei
    k_steps
    unfold Hold
    k_dflt (refine' m_append F6 N6 hw6 hz3 ?_)
    intro h7 n7 F7 N7 m7 s7
    have K7 := K6.1.setWei N6 s7 m7
    clear hw6
    k_steps
    unfold Hold
    k_dflt (refine' m_kt_opens K7.1.kt F7 ?X N7 ?_; (case X => k_asm))
    have ho7 := K7.1.opn
    k_steps
    unfold Hold
    k_dflt (refine' m_append F7 N7 ho7 hz4 ?_)
    intro h8 n8 F8 N8 m8 s8
    have K8 := K7.1.setOpn N7 s8 m8
    have T8 := ((K4.2.trans K5.2).trans K6.2).trans (K7.2.trans K8.2)
    clear ho7
    k_steps
    unfold Hold KP
    have mI8 := T8.2 _ (.tail _ (.head _)) hIoff
    have K9 := K8.1.away N8 mI8 hic (by decide) (by decide) (by decide) fun p hp hne => mem_offI.mpr ⟨hp, hne⟩
    refine hK .next _ (MEnd.of F8 N8 mI8 (fun _ h => nomatch h) rfl (fun z g1 g2 _ => by
      simp only [List.contains_cons, List.contains_nil, Bool.or_false, beq_eq_false_iff_ne] at g2
      simp [g1, g2, setN]) ⟨rfl, ?_, fun p hp => mem_offI.mpr ⟨T8.2 p (.tail _ (.tail _ (hbase1 p hp))) (off_of (l1 p hp) o0), hoff p (hbase1 p hp)⟩⟩)
    rw [prims_succ]
    have e5 : vs.length = i := hlen.trans (prims_len i)
    exact ktokN_put (d := 1) (wt := 1) (op := 0) (by rw [e5]; exact K9.1) (fun a vs n q => K9.2 _ _ _ (T8.1 a vs n q)) (fun k r e => (hin k r e).imp fun v q => ⟨q.1, q.2.mono fun p hp => .tail _ (.tail _ hp)⟩) hlen hrow3 hDl hlk hdi hdl hdc (Nat.le_refl 1) hwi hwl hwc (Nat.le_refl 1) hoi hol fun k hk => by rw [← prims_succ]; exact prims_get hk
  · intro vals u news₁ h tk hJ F2 N2
    have hT := hJ.2.1
    have hbase1 := hJ.2.2
    clear F1 Nw hr1
    k_steps
    all_goals exact ret _ _ _ _ (by assumption) (by assumption) ⟨T, prims 16, rfl, hT, prims_len 16, hbase1, fun p hp => off_of (l1 p hp) o0⟩
end Mine

end
theorem Mine.top_offNE8 : True := by w_top off; trivial
theorem Mine.turnNE8 {M : Model} {A : Around} {env : Env} {Q : Flow → Shared → Prop} {E : Value → Shared → Prop} {s : Shared} (h : Q .next s) : wpAny M A (execs [] env) Q E s := by walk1; exact h
section
-- E9_makers
local macro_rules | `(tactic| walk_at "getMethod ref") => `(tactic| (k_here; (with_reducible show wpAny _ _ (getMethod (Value.ref _) (Str.ofString "put") _) _ _ _); refine Mine.hold_ ?_))
namespace Mine
open PySem.Spec PyProof.V PySem.Calls
theorem base_cap {k : Nat} {r : TRow} (h : Base k r) : capOf r ≤ 2 := by
  cases r with
  | two s x =>
    have e : capOf (.two s x) = 1 := if_pos (h.elim (fun h => .inl h.1) fun h => .inr h.2)
    rw [e]; exact Nat.le_succ 1
  | three s t as => exact (apply_ite (· ≤ 2) _ 1 2).mpr (by split <;> decide)
  | four o mm as => exact h.elim
theorem leaf_cap {s : Nat} (h : s = 6 ∨ s = 7) {x : Nat} : capOf (.two s x) = 1 := if_pos (.inr h)
/-- a row of a sort and a number, put -/
theorem put_two {w : World} {T : KtA} {R : List TRow} {a : Addr} {s x : Nat} (h : (s = 6 ∨ s = 7) ∨ ((s = 5 ∨ s = 8 ∨ s = 9 ∨ s = 11) ∧ ∃ r, R[x]? = some r ∧ Base x r)) (hl : R.length < 1000) :
    Ctl w (.ref 76) [.ref T.kt, .ref a] 50 1000 (fun news => KTOk w T R news ∧ RowIn news (.ref a) (.two s x)) (PutPost w T R (.two s x)) := by
  rcases h with h | ⟨h, r, hr, hb⟩
  · have e : ins (.two s x) = [] := ins_no h
    exact c_put (c := 0) ⟨h.elim (fun h => .inr (.inl h)) fun h => .inr (.inr (.inl h)), fun y hy => (by rw [e] at hy; cases hy), fun _ _ _ e => nomatch e⟩ hl (fun y hy => by rw [e] at hy; cases hy) (by rw [e, leaf_cap h]; exact Nat.le_refl 1) (by rw [leaf_cap h]; exact Nat.zero_le 1)
  · have e : ins (.two s x) = [x] := ins_one h
    have hc : capOf (.two s x) = 9 := if_neg fun q => by rcases h with h | h | h | h <;> subst h <;> exact absurd q (by decide)
    exact c_put (c := 2) ⟨h.elim .inl fun h => .inr (.inr (.inr (h.imp id fun h => h))), fun y hy => (by rw [e] at hy; rw [List.mem_singleton.mp hy]; exact ⟨r, hr, hb⟩), fun _ _ _ e => nomatch e⟩ hl
      (fun y hy r' hr' => by rw [e] at hy; rw [List.mem_singleton.mp hy] at hr'; cases hr.symm.trans hr'; exact base_cap hb) (by rw [e, hc]; exact Nat.le_add_left 3 6) (by rw [hc]; exact Nat.le_add_left 2 7)

set_option maxHeartbeats 8000000 in
theorem c_mkvar {w : World} {T : KtA} {R : List TRow} {x : Nat} {tx : Tok} (hl : R.length < 1000) :
    Ctl w (.ref 160) [.ref T.kt, .int (x : Int) tx] 60 1200 (fun news => KTOk w T R news) (PutPost w T R (.two 6 x)) := by
  unfold Ctl
  k_fill
  intro dp un gd cn cs' ax ccd cl outer A₀ base h₀ L m news s mean mg mb Q E B F X N TP hk hkt hroom hunits ret
  refine wpAny_call ?_
  k_dflt ktr_enter
  with_reducible rename Fr _ _ _ _ => F1
  with_reducible rename News _ _ _ _ => N1
  replace F1 := fr_of (fun y => List.lookup y [(Str.ofString "i", Value.int (x : Int) tx), (Str.ofString "kt", Value.ref T.kt)]) F1 (by with_unfolding_all rfl)
  k_steps
  unfold Hold
  k_dflt (refine' m_kt_put hkt.kt F1 ?X N1 ?_; (case X => k_asm))
  k_steps
  unfold Hold
  k_dflt (refine' Ctl.uP (put_two (s := 6) (.inl (by decide)) hl) ?B ?F ?X ?N ?T ?hk ?hp ?d ?u ?_; walk_at "m_ctl"; (case hp => exact ⟨hkt.mono fun p hp => .tail _ hp, ⟨_, _, _, _, rfl, .head _⟩⟩))
  intro k9 t9 h9 tk9 news9 R9 F9 N9 p9
  k_steps
  all_goals (exact ret _ _ _ _ (by assumption) (by assumption) ⟨k9, R9, t9, rfl, p9.wk fun p hp => .tail _ hp⟩)

set_option maxHeartbeats 8000000 in
theorem c_mkmvar {w : World} {T : KtA} {R : List TRow} {x : Nat} {tx : Tok} (hl : R.length < 1000) :
    Ctl w (.ref 167) [.ref T.kt, .int (x : Int) tx] 60 1200 (fun news => KTOk w T R news) (PutPost w T R (.two 7 x)) := by
  unfold Ctl
  k_fill
  intro dp un gd cn cs' ax ccd cl outer A₀ base h₀ L m news s mean mg mb Q E B F X N TP hk hkt hroom hunits ret
  refine wpAny_call ?_
  k_dflt ktr_enter
  with_reducible rename Fr _ _ _ _ => F1
  with_reducible rename News _ _ _ _ => N1
  replace F1 := fr_of (fun y => List.lookup y [(Str.ofString "i", Value.int (x : Int) tx), (Str.ofString "kt", Value.ref T.kt)]) F1 (by with_unfolding_all rfl)
  k_steps
  unfold Hold
  k_dflt (refine' m_kt_put hkt.kt F1 ?X N1 ?_; (case X => k_asm))
  k_steps
  unfold Hold
  k_dflt (refine' Ctl.uP (put_two (s := 7) (.inl (by decide)) hl) ?B ?F ?X ?N ?T ?hk ?hp ?d ?u ?_; walk_at "m_ctl"; (case hp => exact ⟨hkt.mono fun p hp => .tail _ hp, ⟨_, _, _, _, rfl, .head _⟩⟩))
  intro k9 t9 h9 tk9 news9 R9 F9 N9 p9
  k_steps
  all_goals (exact ret _ _ _ _ (by assumption) (by assumption) ⟨k9, R9, t9, rfl, p9.wk fun p hp => .tail _ hp⟩)

set_option maxHeartbeats 8000000 in
theorem c_mkbox {w : World} {T : KtA} {R : List TRow} {x : Nat} {tx : Tok} {r : TRow} (hr : R[x]? = some r) (hb : Base x r) (hl : R.length < 1000) :
    Ctl w (.ref 174) [.ref T.kt, .int (x : Int) tx] 60 1200 (fun news => KTOk w T R news) (PutPost w T R (.two 8 x)) := by
  unfold Ctl
  k_fill
  intro dp un gd cn cs' ax ccd cl outer A₀ base h₀ L m news s mean mg mb Q E B F X N TP hk hkt hroom hunits ret
  refine wpAny_call ?_
  k_dflt ktr_enter
  with_reducible rename Fr _ _ _ _ => F1
  with_reducible rename News _ _ _ _ => N1
  replace F1 := fr_of (fun y => List.lookup y [(Str.ofString "k", Value.int (x : Int) tx), (Str.ofString "kt", Value.ref T.kt)]) F1 (by with_unfolding_all rfl)
  k_steps
  unfold Hold
  k_dflt (refine' m_kt_put hkt.kt F1 ?X N1 ?_; (case X => k_asm))
  k_steps
  unfold Hold
  k_dflt (refine' Ctl.uP (put_two (s := 8) (.inr ⟨by decide, r, hr, hb⟩) hl) ?B ?F ?X ?N ?T ?hk ?hp ?d ?u ?_; walk_at "m_ctl"; (case hp => exact ⟨hkt.mono fun p hp => .tail _ hp, ⟨_, _, _, _, rfl, .head _⟩⟩))
  intro k9 t9 h9 tk9 news9 R9 F9 N9 p9
  k_steps
  all_goals (exact ret _ _ _ _ (by assumption) (by assumption) ⟨k9, R9, t9, rfl, p9.wk fun p hp => .tail _ hp⟩)

set_option maxHeartbeats 8000000 in
theorem c_mkro {w : World} {T : KtA} {R : List TRow} {x : Nat} {tx : Tok} {r : TRow} (hr : R[x]? = some r) (hb : Base x r) (hl : R.length < 1000) :
    Ctl w (.ref 181) [.ref T.kt, .int (x : Int) tx] 60 1200 (fun news => KTOk w T R news) (PutPost w T R (.two 9 x)) := by
  unfold Ctl
  k_fill
  intro dp un gd cn cs' ax ccd cl outer A₀ base h₀ L m news s mean mg mb Q E B F X N TP hk hkt hroom hunits ret
  refine wpAny_call ?_
  k_dflt ktr_enter
  with_reducible rename Fr _ _ _ _ => F1
  with_reducible rename News _ _ _ _ => N1
  replace F1 := fr_of (fun y => List.lookup y [(Str.ofString "inner", Value.int (x : Int) tx), (Str.ofString "kt", Value.ref T.kt)]) F1 (by with_unfolding_all rfl)
  k_steps
  unfold Hold
  k_dflt (refine' m_kt_put hkt.kt F1 ?X N1 ?_; (case X => k_asm))
  k_steps
  unfold Hold
  k_dflt (refine' Ctl.uP (put_two (s := 9) (.inr ⟨by decide, r, hr, hb⟩) hl) ?B ?F ?X ?N ?T ?hk ?hp ?d ?u ?_; walk_at "m_ctl"; (case hp => exact ⟨hkt.mono fun p hp => .tail _ hp, ⟨_, _, _, _, rfl, .head _⟩⟩))
  intro k9 t9 h9 tk9 news9 R9 F9 N9 p9
  k_steps
  all_goals (exact ret _ _ _ _ (by assumption) (by assumption) ⟨k9, R9, t9, rfl, p9.wk fun p hp => .tail _ hp⟩)

set_option maxHeartbeats 8000000 in
theorem c_mkby {w : World} {T : KtA} {R : List TRow} {x : Nat} {tx : Tok} {r : TRow} (hr : R[x]? = some r) (hb : Base x r) (hl : R.length < 1000) :
    Ctl w (.ref 153) [.ref T.kt, .int (x : Int) tx] 60 1200 (fun news => KTOk w T R news) (PutPost w T R (.two 5 x)) := by
  unfold Ctl
  k_fill
  intro dp un gd cn cs' ax ccd cl outer A₀ base h₀ L m news s mean mg mb Q E B F X N TP hk hkt hroom hunits ret
  refine wpAny_call ?_
  k_dflt ktr_enter
  with_reducible rename Fr _ _ _ _ => F1
  with_reducible rename News _ _ _ _ => N1
  replace F1 := fr_of (fun y => List.lookup y [(Str.ofString "inner", Value.int (x : Int) tx), (Str.ofString "kt", Value.ref T.kt)]) F1 (by with_unfolding_all rfl)
  k_steps
  unfold Hold
  k_dflt (refine' m_kt_put hkt.kt F1 ?X N1 ?_; (case X => k_asm))
  k_steps
  unfold Hold
  k_dflt (refine' Ctl.uP (put_two (s := 5) (.inr ⟨by decide, r, hr, hb⟩) hl) ?B ?F ?X ?N ?T ?hk ?hp ?d ?u ?_; walk_at "m_ctl"; (case hp => exact ⟨hkt.mono fun p hp => .tail _ hp, ⟨_, _, _, _, rfl, .head _⟩⟩))
  intro k9 t9 h9 tk9 news9 R9 F9 N9 p9
  k_steps
  all_goals (exact ret _ _ _ _ (by assumption) (by assumption) ⟨k9, R9, t9, rfl, p9.wk fun p hp => .tail _ hp⟩)

set_option maxHeartbeats 8000000 in
theorem c_mkraw {w : World} {T : KtA} {R : List TRow} {x : Nat} {tx : Tok} {r : TRow} (hr : R[x]? = some r) (hb : Base x r) (hl : R.length < 1000) :
    Ctl w (.ref 195) [.ref T.kt, .int (x : Int) tx] 60 1200 (fun news => KTOk w T R news) (PutPost w T R (.two 11 x)) := by
  unfold Ctl
  k_fill
  intro dp un gd cn cs' ax ccd cl outer A₀ base h₀ L m news s mean mg mb Q E B F X N TP hk hkt hroom hunits ret
  refine wpAny_call ?_
  k_dflt ktr_enter
  with_reducible rename Fr _ _ _ _ => F1
  with_reducible rename News _ _ _ _ => N1
  replace F1 := fr_of (fun y => List.lookup y [(Str.ofString "owner", Value.int (x : Int) tx), (Str.ofString "kt", Value.ref T.kt)]) F1 (by with_unfolding_all rfl)
  k_steps
  unfold Hold
  k_dflt (refine' m_kt_put hkt.kt F1 ?X N1 ?_; (case X => k_asm))
  k_steps
  unfold Hold
  k_dflt (refine' Ctl.uP (put_two (s := 11) (.inr ⟨by decide, r, hr, hb⟩) hl) ?B ?F ?X ?N ?T ?hk ?hp ?d ?u ?_; walk_at "m_ctl"; (case hp => exact ⟨hkt.mono fun p hp => .tail _ hp, ⟨_, _, _, _, rfl, .head _⟩⟩))
  intro k9 t9 h9 tk9 news9 R9 F9 N9 p9
  k_steps
  all_goals (exact ret _ _ _ _ (by assumption) (by assumption) ⟨k9, R9, t9, rfl, p9.wk fun p hp => .tail _ hp⟩)

theorem capA {R : List TRow} {as : List Nat} (h1 : as.length ≤ 1) (h2 : ∀ x ∈ as, ∃ r, R[x]? = some r ∧ Base x r ∧ capOf r ≤ 1) : (∀ x ∈ as, ∀ r, R[x]? = some r → capOf r ≤ as.length) ∧ 1 + as.length * as.length ≤ capOf (.three 3 0 as) ∧ as.length + 1 ≤ capOf (.three 3 0 as) := by
  match as with
  | [] => exact ⟨fun _ h => (nomatch h), (by show 1 + 0 * 0 ≤ 1; decide), (by show 0 + 1 ≤ 1; decide)⟩
  | [y] =>
    obtain ⟨r, hr, hb, hc⟩ := h2 y (.head _)
    refine ⟨fun x hx r' hr' => ?_, (by show 1 + 1 * 1 ≤ 2; decide), (by show 1 + 1 ≤ 2; decide)⟩
    rw [List.mem_singleton.mp hx, hr] at hr'
    cases hr'
    exact hc
  | _ :: _ :: _ => exact absurd h1 (by intro q; exact absurd (Nat.le_of_succ_le_succ q) (Nat.not_succ_le_zero _))
end Mine
local macro_rules | `(tactic| walk_at $k:str) => do
  if ["execs cons If", "compareOp In int ref"].contains k.getString then `(tactic| refine Mine.hold_ ?_) else Lean.Macro.throwUnsupported
namespace Mine
open PySem.Spec PyProof.V PySem.Calls
set_option maxHeartbeats 8000000 in
theorem c_mkval {w : World} {T : KtA} {R : List TRow} {t : Nat} {tx : Tok} {b : Addr} {vs : List Value} {as : List Nat} {n' : Nat} (hi : IntsAre vs (zs as)) (ht1 : 30 ≤ t) (ht2 : t < 1000) (ha1 : as.length ≤ 1) (ha2 : ∀ x ∈ as, ∃ r, R[x]? = some r ∧ Base x r ∧ capOf r ≤ 1) (hl : R.length < 1000) :
    Ctl w (.ref 139) [.ref T.kt, .int (t : Int) tx, .ref b] 60 1200 (fun news => KTOk w T R news ∧ (b, tupOf vs n') ∈ news) (PutPost w T R (.three 3 t as)) := by
  unfold Ctl
  k_fill
  intro dp un gd cn cs' ax ccd cl outer A₀ base h₀ L m news s mean mg mb Q E B F X N TP hk hpre hroom hunits ret
  have hkt := hpre.1
  have hbm := hpre.2
  have hok : RowOkT R (.three 3 t as) := ⟨⟨rfl, Nat.le_succ_of_le ha1⟩, fun y hy => (ha2 y hy).imp fun r h => ⟨h.1, h.2.1⟩, fun _ _ _ e => TRow.noConfusion e fun _ e _ => e ▸ ⟨ht1, ht2⟩⟩
  have g := capA ha1 ha2
  refine wpAny_call ?_
  k_dflt ktr_enter
  with_reducible rename Fr _ _ _ _ => F1
  with_reducible rename News _ _ _ _ => N1
  with_reducible rename (hd.heap_1 w.params).In _ => X1
  replace F1 := fr_of (fun y => List.lookup y [(Str.ofString "args", Value.ref b), (Str.ofString "tid", Value.int (t : Int) tx), (Str.ofString "kt", Value.ref T.kt)]) F1 (by with_unfolding_all rfl)
  k_steps
  unfold Hold
  refine wpAny_execs_cons (wpAny_If ?_)
  k_steps
  unfold Hold
  k_dflt (refine' m_tpIn F1 X1 (tp_none (Int.ofNat_le.mpr ht1)) ?_)
  k_steps
  unfold Hold
  k_dflt (refine' m_kt_put hkt.kt F1 ?X N1 ?_; (case X => k_asm))
  k_steps
  unfold Hold
  k_dflt (refine' Ctl.uP (c_put (c := as.length) hok hl g.1 g.2.1 g.2.2) ?B ?F ?X ?N ?T ?hk ?hp ?d ?u ?_; walk_at "m_ctl"; (case hp => exact ⟨hkt.mono fun p hp => .tail _ hp, ⟨_, b, vs, _, _, _, n', rfl, .head _, .tail _ hbm, hi⟩⟩))
  intro k9 t9 h9 tk9 news9 R9 F9 N9 p9
  k_steps
  all_goals (exact ret _ _ _ _ (by assumption) (by assumption) ⟨k9, R9, t9, rfl, p9.wk fun p hp => .tail _ hp⟩)
set_option maxHeartbeats 8000000 in
theorem c_mkftn {w : World} {T : KtA} {R : List TRow} {o mm : Nat} {to tm : Tok} {b : Addr} {vs : List Value} {as : List Nat} {n' : Nat} (hi : IntsAre vs (zs as)) (ha1 : as.length ≤ 2) (ha2 : ∀ x ∈ o :: as, ∃ r, R[x]? = some r ∧ Base x r) (hl : R.length < 1000) :
    Ctl w (.ref 188) [.ref T.kt, .int (o : Int) to, .int (mm : Int) tm, .ref b] 60 1200 (fun news => KTOk w T R news ∧ (b, tupOf vs n') ∈ news) (PutPost w T R (.four o mm as)) := by
  unfold Ctl
  k_fill
  intro dp un gd cn cs' ax ccd cl outer A₀ base h₀ L m news s mean mg mb Q E B F X N TP hk hpre hroom hunits ret
  have hkt := hpre.1
  have hbm := hpre.2
  have hok : RowOkT R (.four o mm as) := ⟨ha1, ha2, fun _ _ _ e => nomatch e⟩
  have hcap : 1 + 2 * (as.length + 1) ≤ 9 := Nat.add_le_add_left (Nat.mul_le_mul_left 2 (Nat.succ_le_succ (Nat.le_succ_of_le ha1))) 1
  refine wpAny_call ?_
  k_dflt ktr_enter
  with_reducible rename Fr _ _ _ _ => F1
  with_reducible rename News _ _ _ _ => N1
  replace F1 := fr_of (fun y => List.lookup y [(Str.ofString "margs", Value.ref b), (Str.ofString "mid", Value.int (mm : Int) tm), (Str.ofString "owner", Value.int (o : Int) to), (Str.ofString "kt", Value.ref T.kt)]) F1 (by with_unfolding_all rfl)
  k_steps
  unfold Hold
  k_dflt (refine' m_kt_put hkt.kt F1 ?X N1 ?_; (case X => k_asm))
  k_steps
  unfold Hold
  k_dflt (refine' Ctl.uP (c_put (c := 2) hok hl (fun y hy r' hr' => (ha2 y hy).elim fun r h => Option.some.inj (h.1.symm.trans hr') ▸ base_cap h.2) hcap (Nat.le_add_left 2 7)) ?B ?F ?X ?N ?T ?hk ?hp ?d ?u ?_; walk_at "m_ctl"; (case hp => exact ⟨hkt.mono fun p hp => .tail _ hp, ⟨_, b, vs, _, _, _, _, n', rfl, .head _, .tail _ hbm, hi⟩⟩))
  intro k9 t9 h9 tk9 news9 R9 F9 N9 p9
  k_steps
  all_goals (exact ret _ _ _ _ (by assumption) (by assumption) ⟨k9, R9, t9, rfl, p9.wk fun p hp => .tail _ hp⟩)
end Mine

end
theorem Mine.top_offNE9 : True := by w_top off; trivial
theorem Mine.turnNE9 {M : Model} {A : Around} {env : Env} {Q : Flow → Shared → Prop} {E : Value → Shared → Prop} {s : Shared} (h : Q .next s) : wpAny M A (execs [] env) Q E s := by walk1; exact h
section
-- F0_arith
namespace Mine
open PySem.Spec PyProof.V PySem.Calls
section
variable {w : World} {A : Around} {E : Value → Shared → Prop} {s : Shared} {Q : Value → Shared → Prop} {t u : Tok}
theorem fmodN (a k : Nat) : Int.fmod (a : Int) (k : Int) = ((a % k : Nat) : Int) := by
  rw [Int.fmod_eq_emod_of_nonneg _ (by omega)]; omega
theorem fdivN (a k : Nat) : Int.fdiv (a : Int) (k : Int) = ((a / k : Nat) : Int) := by
  rw [Int.fdiv_eq_ediv_of_nonneg _ (by omega)]; omega
theorem m_modN {hp1 : Heap} {tk1 : Nat} {a : Nat} (k : Nat) (hk : 0 < k) (h : Q (.int ((a % k : Nat) : Int) tk1) { s with heap := hp1, toks := tk1 + 1 }) : wpAny (model PP w) A (binaryOp .Mod (.int (a : Int) t) (.int (k : Int) u)) Q E { s with heap := hp1, toks := tk1 } :=
  mod_int' (by omega) (by rw [fmodN]; exact h)
theorem m_divN {hp1 : Heap} {tk1 : Nat} {a : Nat} (k : Nat) (hk : 0 < k) (hz : k < 100000) (h : Q (.int ((a / k : Nat) : Int) tk1) { s with heap := hp1, toks := tk1 + 1 }) : wpAny (model PP w) A (binaryOp .FloorDiv (.int (a : Int) t) (.int (k : Int) u)) Q E { s with heap := hp1, toks := tk1 } :=
  floordiv_int (by omega) (by rw [fdivN]; exact h) (.inl (PyProof.noPylong_of_log2 (by
    have h1 : (k : Int).natAbs = k := Int.natAbs_natCast k
    rw [h1]
    have : k.log2 < 17 := Nat.log2_lt (by omega) |>.mpr (by omega)
    omega)))
theorem m_addN {hp1 : Heap} {tk1 : Nat} (a b : Nat) (h : Q (.int ((a + b : Nat) : Int) tk1) { s with heap := hp1, toks := tk1 + 1 }) : wpAny (model PP w) A (binaryOp .Add (.int (a : Int) t) (.int (b : Int) u)) Q E { s with heap := hp1, toks := tk1 } :=
  PyProof.Rows.add_int h
theorem m_modK {hp1 : Heap} {tk1 : Nat} {a : Nat} {k : Int} (kn : Nat) (e : k = (kn : Int)) (hk : 0 < kn) (h : Q (.int ((a % kn : Nat) : Int) tk1) { s with heap := hp1, toks := tk1 + 1 }) : wpAny (model PP w) A (binaryOp .Mod (.int (a : Int) t) (.int k u)) Q E { s with heap := hp1, toks := tk1 } := by
  subst e; exact m_modN kn hk h
theorem m_divK {hp1 : Heap} {tk1 : Nat} {a : Nat} {k : Int} (kn : Nat) (e : k = (kn : Int)) (hk : 0 < kn) (hz : kn < 100000) (h : Q (.int ((a / kn : Nat) : Int) tk1) { s with heap := hp1, toks := tk1 + 1 }) : wpAny (model PP w) A (binaryOp .FloorDiv (.int (a : Int) t) (.int k u)) Q E { s with heap := hp1, toks := tk1 } := by
  subst e; exact m_divN kn hk hz h
theorem m_addL {hp1 : Heap} {tk1 : Nat} {k : Int} {b : Nat} (kn : Nat) (e : k = (kn : Int)) (h : Q (.int ((kn + b : Nat) : Int) tk1) { s with heap := hp1, toks := tk1 + 1 }) : wpAny (model PP w) A (binaryOp .Add (.int k t) (.int (b : Int) u)) Q E { s with heap := hp1, toks := tk1 } := by
  subst e; exact m_addN kn b h
end
end Mine

-- F1_leaf
namespace Mine
open PySem.Spec PyProof.V PySem.Calls

def roundSort (n : Nat) : Nat := ([4, 5, 8, 9, 11] : List Nat).getD n 4
/-- kind k stands for the law's row -/
def Stand (R : List TRow) (laid : List Nat) (k : Nat) : LRow → Prop
  | .word n => k = n ∧ n < 16 ∧ R[k]? = some (.two 1 n)
  | .var n => R[k]? = some (.two 6 n)
  | .mvar n => R[k]? = some (.two 7 n)
  | .typ n ps => ∃ s as, (s = 2 ∨ s = 3) ∧ R[k]? = some (.three s n as) ∧ ps.map (fun j => laid[j]?) = as.map some
  | .meth n ps => ∃ o as, R[k]? = some (.four o n as) ∧ ps.map (fun j => laid[j]?) = (o :: as).map some
  | .round n x => ∃ y, R[k]? = some (.two (roundSort n) y) ∧ laid[x]? = some y

/-- the row of a leaf -/
def leafRow (n : Nat) : LRow :=
  if n % 4 = 0 then .word (n / 4 % 211 % 16) else if n % 4 = 1 then .var (n / 4 % 211) else if n % 4 = 2 then .mvar (n / 4 % 211) else .typ (30 + n / 4 % 211) []
theorem leaf_ways (n : Nat) : (n % 4 = 0 ∧ leafRow n = .word (n / 4 % 211 % 16)) ∨ (n % 4 = 1 ∧ leafRow n = .var (n / 4 % 211)) ∨ (n % 4 = 2 ∧ leafRow n = .mvar (n / 4 % 211)) ∨ (n % 4 = 3 ∧ leafRow n = .typ (30 + n / 4 % 211) []) := by
  unfold leafRow
  have h := Nat.mod_lt n (show 4 > 0 by decide)
  generalize n % 4 = q at h
  match q, h with
  | 0, _ => exact .inl ⟨rfl, rfl⟩
  | 1, _ => exact .inr (.inl ⟨rfl, rfl⟩)
  | 2, _ => exact .inr (.inr (.inl ⟨rfl, rfl⟩))
  | 3, _ => exact .inr (.inr (.inr ⟨rfl, rfl⟩))
  | q + 4, h => exact absurd h (Nat.not_lt.mpr (Nat.le_add_left 4 q))
def leafForm (k : Nat) : Str := ([Str.ofString "word", Str.ofString "!", Str.ofString "!!", Str.ofString "type"] : List Str).getD k (Str.ofString "")
theorem leaf_form (n : Nat) : (leafRow n).form = leafForm (n % 4) ∧ (leafRow n).parts = [] := by
  rcases leaf_ways n with ⟨h, e⟩ | ⟨h, e⟩ | ⟨h, e⟩ | ⟨h, e⟩ <;> (rw [e, h]; exact ⟨rfl, rfl⟩)
theorem form_at {t k : Nat} (h : k < 4) : ([Value.str (Str.ofString "word") t, .str (Str.ofString "!") (t + 1), .str (Str.ofString "!!") (t + 1 + 1), .str (Str.ofString "type") (t + 1 + 1 + 1)] : List Value)[k]? = some (.str (leafForm k) (t + k)) :=
  match k, h with
  | 0, _ => rfl
  | 1, _ => rfl
  | 2, _ => rfl
  | 3, _ => rfl
  | n + 4, h => absurd h (Nat.not_lt.mpr (Nat.le_add_left 4 n))

section
variable {w : World} {T : KtA} {R : List TRow} {l : Addr} {news news' : List (Addr × Obj)}
theorem RowsAt.off (ht : TupSub news news') (hs : ∀ o : Obj, (l, o) ∈ news → (l, o) ∈ news') (h : RowsAt l R news) : RowsAt l R news' := h.rec fun vs n h len rows => ⟨vs, n, hs _ h, len, fun k r e => (rows k r e).imp fun _ q => ⟨q.1, q.2.tups ht⟩⟩
theorem NumsAt.off (hs : ∀ o : Obj, (l, o) ∈ news → (l, o) ∈ news') (h : NumsAt l R news) : NumsAt l R news' := h.rec fun vs n ns h i len cap => ⟨vs, n, ns, hs _ h, i, len, cap⟩
theorem FlagsAt.off (hs : ∀ o : Obj, (l, o) ∈ news → (l, o) ∈ news') (h : FlagsAt l R news) : FlagsAt l R news' := h.rec fun vs n ns h i len => ⟨vs, n, ns, hs _ h, i, len⟩
theorem IdxAt.off (ht : TupSub news news') (hs : ∀ o : Obj, (l, o) ∈ news → (l, o) ∈ news') (h : IdxAt w l R news) : IdxAt w l R news' := h.rec fun D h len at_ => ⟨D, h.off ht hs, len, at_⟩
theorem KtAt.off {kt a1 a2 a3 a4 a5 : Addr} {h₀ h : Heap} {L : Addr} {x : Addr} {o : Obj} {c : String} (N : News h₀ L h news) (hx : (x, o) ∈ news) (hc : o.cls = .type c) (h2 : c ≠ "dict") (s : ∀ p ∈ news, p.1 ≠ x → p ∈ news') (K : KtAt news kt a1 a2 a3 a4 a5) : KtAt news' kt a1 a2 a3 a4 a5 :=
  K.rec fun dx h1 h2' h3 h4 h5 t1 t2 t3 t4 t5 n hm hd => ⟨dx, h1, h2', h3, h4, h5, t1, t2, t3, t4, t5, n, s _ hm (obj_ne N hm hx (by rw [hc]; exact fun e => nomatch e)), s _ hd (obj_ne N hd hx (by rw [hc]; exact cls_ne h2.symm))⟩
theorem tup_sub {h₀ h : Heap} {L : Addr} {x : Addr} {o : Obj} {c : String} (N : News h₀ L h news) (hx : (x, o) ∈ news) (hc : o.cls = .type c) (h3 : c ≠ "tuple") (s : ∀ p ∈ news, p.1 ≠ x → p ∈ news') : TupSub news news' := fun _ _ _ q => s _ q (obj_ne N q hx (by rw [hc]; exact cls_ne h3.symm))
/-- a change off the table leaves it -/
theorem KTOkN.away {n16 : Nat} {h₀ h : Heap} {L : Addr} {x : Addr} {o : Obj} {c : String} (H : KTOkN n16 w T R news) (N : News h₀ L h news) (hx : (x, o) ∈ news) (hc : o.cls = .type c) (h2 : c ≠ "dict") (h3 : c ≠ "tuple") (ol : T.Off x) (s : ∀ p ∈ news, p.1 ≠ x → p ∈ news') : KTOkN n16 w T R news' :=
  have ht := tup_sub N hx hc h3 s
  ⟨H.kt.off N hx hc h2 s, H.ne, H.rows.off ht fun _ q => s _ q ol.1.symm, H.idx.off ht fun _ q => s _ q ol.2.1.symm, H.dep.off fun _ q => s _ q ol.2.2.1.symm, H.wei.off fun _ q => s _ q ol.2.2.2.1.symm, H.opn.off fun _ q => s _ q ol.2.2.2.2.symm, H.prim⟩
end
theorem lrow_of {h₀ h : Heap} {L D De : Addr} {t1 t2 : Tok} {num : Nat} {f : Str} {ps : List Value} {n n' : Nat} {news : List (Addr × Obj)} (_ : News h₀ L h news) (h1 : (D, tupOf [.str f t1, .int (num : Int) t2, .ref De] n) ∈ news) (h2 : (De, tupOf ps n') ∈ news) (r : LRow) (hf : r.form = f) (hn : r.num = num) (hp : IntsAre ps (zs r.parts)) : LRowIn news (.ref D) r :=
  ⟨D, De, ps, t1, t2, n, n', rfl, by rw [hf, hn]; exact h1, h2, hp⟩

def Small : TRow → Prop
  | .two .. => True
  | .three _ _ as => as.length ≤ 2
  | .four _ _ as => as.length ≤ 2
def Grow (R R' : List TRow) : Prop := ∀ (j : Nat) (r : TRow), R'[j]? = some r → R[j]? = some r ∨ Small r
theorem Only.grow {R R' : List TRow} {row : TRow} (h : Only R R' row) (hs : Small row) : Grow R R' := fun j r e => (h j r e).imp id fun e' => by rw [e']; exact hs
/-- a kind more is laid -/
structure LaidOk (w : World) (T : KtA) (R R' : List TRow) (laidA : Addr) (vs : List Value) (r : LRow) (k : Nat) (t : Tok) (n1 : Nat) (news news' : List (Addr × Obj)) : Prop where
  ok : KTOk w T R' news'
  ext : Ext R R'
  len : R'.length ≤ R.length + 1
  grow : Grow R R'
  laid : (laidA, W.listOf (vs ++ [Value.int ((k : Nat) : Int) t]).toArray n1) ∈ news'
  st : Stand R' [] k r
  keep : ∀ p ∈ news, T.Off p.1 → p.1 ≠ laidA → p ∈ news'
def LeafPost (w : World) (T : KtA) (R : List TRow) (laidA lrowsA : Addr) (vs lv : List Value) (n : Nat) (news : List (Addr × Obj)) (r : Value) (news' : List (Addr × Obj)) : Prop :=
  r = .none ∧ ∃ R' k t v n1 n2, KTOk w T R' news' ∧ Ext R R' ∧ R'.length ≤ R.length + 1 ∧ Grow R R' ∧ (laidA, W.listOf (vs ++ [Value.int ((k : Nat) : Int) t]).toArray n1) ∈ news' ∧ (lrowsA, W.listOf (lv ++ [v]).toArray n2) ∈ news' ∧
    LRowIn news' v (leafRow n) ∧ Stand R' [] k (leafRow n) ∧ ∀ p ∈ news, T.Off p.1 → p.1 ≠ laidA → p.1 ≠ lrowsA → p ∈ news'
theorem LaidOk.put {w : World} {T : KtA} {R R' : List TRow} {laidA : Addr} {vs : List Value} {r : LRow} {row : TRow} {k : Nat} {t : Tok} {n1 n2 : Nat} {h₀ h : Heap} {L : Addr} {news news0 n3 n4 : List (Addr × Obj)} (hb : ∀ p ∈ news, p ∈ news0) (p : PutOk w T R row news0 k R' n3) (N : News h₀ L h n3) (hl : (laidA, W.listOf vs.toArray n1) ∈ news) (ol : T.Off laidA) (hs : Small row) (st : Stand R' [] k r)
    (m : (laidA, W.listOf (vs ++ [Value.int ((k : Nat) : Int) t]).toArray n2) ∈ n4) (s : ∀ p ∈ n3, p.1 ≠ laidA → p ∈ n4) : LaidOk w T R R' laidA vs r k t n2 news n4 :=
  ⟨p.ok.away N (p.keep _ (hb _ hl) ol) rfl (by decide) (by decide) ol s, p.ext, p.len, p.only.grow hs, m, st, fun q hq o h => s q (p.keep q (hb q hq) o) h⟩
end Mine
local macro_rules | `(tactic| walk_at $k:str) => do
  if ["execs cons If", "subscriptTail", "binaryOp Mod int int", "binaryOp FloorDiv int int", "binaryOp Add int int"].contains k.getString then `(tactic| refine Mine.hold_ ?_) else Lean.Macro.throwUnsupported
namespace Mine
open PySem.Spec PyProof.V PySem.Calls
set_option maxHeartbeats 16000000 in
theorem c_leaf {w : World} {T : KtA} {R : List TRow} {laidA lrowsA : Addr} {vs lv : List Value} {n n1 n2 : Nat} {tn : Tok} (hl : R.length < 1000) (hvl : vs.length ≤ 1000) (hll : lv.length ≤ 1000) (ol : T.Off laidA) (or : T.Off lrowsA) (hne : laidA ≠ lrowsA) :
    Ctl w (.ref 271) [.ref T.kt, .ref laidA, .ref lrowsA, .int (n : Int) tn] 70 1400 (fun news => KTOk w T R news ∧ (laidA, W.listOf vs.toArray n1) ∈ news ∧ (lrowsA, W.listOf lv.toArray n2) ∈ news) (LeafPost w T R laidA lrowsA vs lv n) := by
  unfold Ctl
  k_fill
  intro dp un gd cn cs' ax ccd cl outer A₀ base h₀ L m news s mean mg mb Q E B F X N TP hk hpre hroom hunits ret
  have hkt := hpre.1
  have hlaid := hpre.2.1
  have hlr := hpre.2.2
  have hvz := Nat.le_trans hvl (show 1000 ≤ 16384 by decide)
  have hlz := Nat.le_trans hll (show 1000 ≤ 16384 by decide)
  have hnum : n / 4 % 211 < 211 := Nat.mod_lt _ (by decide)
  have hlt4 : n % 4 < 4 := Nat.mod_lt _ (by decide)
  clear hpre
  refine wpAny_call ?_
  k_dflt ktr_enter
  with_reducible rename Fr _ _ _ _ => F1
  replace F1 := fr_of (fun y => List.lookup y [(Str.ofString "n", Value.int (n : Int) tn), (Str.ofString "rows", Value.ref lrowsA), (Str.ofString "laid", Value.ref laidA), (Str.ofString "kt", Value.ref T.kt)]) F1 (by with_unfolding_all rfl)
  k_steps
  unfold Hold
  k_dflt ((refine' Mine.m_modK 4 (rfl : (4 : Int) = ((4 : Nat) : Int)) (by decide) ?_); k_whole)
  k_steps
  unfold Hold
  k_dflt ((refine' Mine.m_divK 4 (rfl : (4 : Int) = ((4 : Nat) : Int)) (by decide) (by decide) ?_); k_whole)
  k_steps
  unfold Hold
  k_dflt ((refine' Mine.m_modK 211 (rfl : (211 : Int) = ((211 : Nat) : Int)) (by decide) ?_); k_whole)
  k_steps
  unfold Hold
  with_reducible rename Fr _ _ _ _ => F2
  with_reducible rename News _ _ _ _ => N2
  refine wpAny_execs_cons ?_
  refine midV (Str.ofString "number") (fun v news' => ∃ tn, v = .int (((leafRow n).num : Nat) : Int) tn ∧ ∃ R' k t n1, LaidOk w T R R' laidA vs (leafRow n) k t n1 news news') F2 ?_ ?_
  · intro v3 h3 k3 news3 P3 F3 N3
    refine hideG ?_
    intro P k9
    obtain ⟨tnum, ev, R', k, t, n1', lo⟩ := P3
    subst ev
    have hlr3 := lo.keep _ hlr or hne.symm
    refine k9 ?_
    clear k9 hkt hlaid hlr
    k_steps
    unfold Hold
    with_reducible rename News _ _ _ _ => N4
    refine m_itemTup N4 (.head _) (vs := [Value.str (Str.ofString "word") _, .str (Str.ofString "!") _, .str (Str.ofString "!!") _, .str (Str.ofString "type") _]) (n := 0) (form_at hlt4) (Int.natCast_nonneg _) (n63 hlt4 rfl) ?_
    k_steps
    unfold Hold
    with_reducible rename Fr _ _ _ _ => F5
    with_reducible rename News _ _ _ _ => N5
    have hrow := lrow_of (ps := []) N5 (.head _) (.tail _ (.head _)) (leafRow n) (leaf_form n).1 rfl (by rw [(leaf_form n).2]; exact .nil)
    k_dflt (refine' m_append F5 N5 (.tail _ (.tail _ (.tail _ hlr3))) hlz ?_)
    intro h6 n6 F6 N6 m6 s6
    have s7 : ∀ p ∈ news3, p.1 ≠ lrowsA → p ∈ n6 := fun p hp => s6 p (.tail _ (.tail _ (.tail _ hp)))
    have hrow6 := hrow.tups (tup_sub N5 (.tail _ (.tail _ (.tail _ hlr3))) rfl (by decide) s6)
    have hk6 := lo.ok.away (fun p hp => N5 p (.tail _ (.tail _ (.tail _ hp)))) hlr3 rfl (by decide) (by decide) or s7
    clear hrow s6
    k_steps
    all_goals exact ret _ _ _ _ (by assumption) (by assumption) ⟨rfl, R', k, t, _, _, _, hk6, lo.ext, lo.len, lo.grow, s7 _ lo.laid hne, m6, hrow6, lo.st, fun p hp o1 o2 o3 => s7 p (lo.keep p hp o1 o2) o3⟩
  · intro K hK
    refine wpAny_If ?_
    rcases leaf_ways n with ⟨h4, el⟩ | ⟨h4, el⟩ | ⟨h4, el⟩ | ⟨h4, el⟩
    · k_dflt (refine' Mine.m_isT (x₀ := Str.empty) (vs := []) (fun h => absurd rfl h) F2 ?X (topRead_of ?T) rfl (.cast ?e (show (((n % 4 : Nat) : Int) == 0) = true by rw [h4]; rfl)) ?_; (case X => k_asm); (case T => k_asm); (case e => walk_at "m_tst"))
      intro k4
      k_steps
      unfold Hold
      k_dflt ((refine' Mine.m_modK 16 (rfl : (16 : Int) = ((16 : Nat) : Int)) (by decide) ?_); k_whole)
      k_steps
      unfold Hold
      with_reducible rename Fr _ _ _ _ => F3
      with_reducible rename News _ _ _ _ => N3
      k_dflt (refine' m_append F3 N3 hlaid hvz ?_)
      intro h5 n5 F5 N5 m5 s5
      k_steps
      unfold Hold KP
      exact hK _ (.mk F5 N5 ⟨_, by rw [el]; rfl, R, _, _, _, hkt.away N3 hlaid rfl (by decide) (by decide) ol s5, fun _ _ h => h, Nat.le_succ _, fun _ _ h => .inl h, m5, by rw [el]; exact ⟨rfl, Nat.mod_lt _ (by decide), hkt.prim _ (Nat.mod_lt _ (by decide))⟩, fun p hp _ h => s5 p hp h⟩)
    · k_dflt (refine' Mine.m_isF (x₀ := Str.empty) (vs := []) (fun h => absurd rfl h) F2 ?X (topRead_of ?T) rfl (.cast ?e (show (((n % 4 : Nat) : Int) == 0) = false by rw [h4]; rfl)) ?_; (case X => k_asm); (case T => k_asm); (case e => walk_at "m_tst"))
      intro k4
      refine wpAny_execs_cons (wpAny_If ?_)
      k_dflt (refine' Mine.m_isT (x₀ := Str.empty) (vs := []) (fun h => absurd rfl h) F2 ?X (topRead_of ?T) rfl (.cast ?e (show (((n % 4 : Nat) : Int) == 1) = true by rw [h4]; rfl)) ?_; (case X => k_asm); (case T => k_asm); (case e => walk_at "m_tst"))
      intro k5
      k_steps
      unfold Hold
      k_dflt (refine' Ctl.uP (c_mkvar hl) ?B ?F ?X ?N ?T ?hk ?hp ?d ?u ?_; walk_at "m_ctl"; (case hp => exact hkt))
      intro k9 t9 h9 tk9 news9 R9 F9 N9 p9
      k_steps
      unfold Hold
      k_dflt (refine' m_append F9 N9 (p9.keep _ hlaid ol) hvz ?_)
      intro h5 n5 F5 N5 m5 s5
      k_steps
      unfold Hold KP
      exact hK _ (.keep rfl F5 N5 ⟨_, by rw [el]; rfl, R9, k9, t9, _, .put (fun _ h => h) p9 N9 hlaid ol trivial (by rw [el]; exact p9.at_) m5 s5⟩)
    · k_dflt (refine' Mine.m_isF (x₀ := Str.empty) (vs := []) (fun h => absurd rfl h) F2 ?X (topRead_of ?T) rfl (.cast ?e (show (((n % 4 : Nat) : Int) == 0) = false by rw [h4]; rfl)) ?_; (case X => k_asm); (case T => k_asm); (case e => walk_at "m_tst"))
      intro k4
      refine wpAny_execs_cons (wpAny_If ?_)
      k_dflt (refine' Mine.m_isF (x₀ := Str.empty) (vs := []) (fun h => absurd rfl h) F2 ?X (topRead_of ?T) rfl (.cast ?e (show (((n % 4 : Nat) : Int) == 1) = false by rw [h4]; rfl)) ?_; (case X => k_asm); (case T => k_asm); (case e => walk_at "m_tst"))
      intro k5
      refine wpAny_execs_cons (wpAny_If ?_)
      k_dflt (refine' Mine.m_isT (x₀ := Str.empty) (vs := []) (fun h => absurd rfl h) F2 ?X (topRead_of ?T) rfl (.cast ?e (show (((n % 4 : Nat) : Int) == 2) = true by rw [h4]; rfl)) ?_; (case X => k_asm); (case T => k_asm); (case e => walk_at "m_tst"))
      intro k6
      k_steps
      unfold Hold
      k_dflt (refine' Ctl.uP (c_mkmvar hl) ?B ?F ?X ?N ?T ?hk ?hp ?d ?u ?_; walk_at "m_ctl"; (case hp => exact hkt))
      intro k9 t9 h9 tk9 news9 R9 F9 N9 p9
      k_steps
      unfold Hold
      k_dflt (refine' m_append F9 N9 (p9.keep _ hlaid ol) hvz ?_)
      intro h5 n5 F5 N5 m5 s5
      k_steps
      unfold Hold KP
      exact hK _ (.keep rfl F5 N5 ⟨_, by rw [el]; rfl, R9, k9, t9, _, .put (fun _ h => h) p9 N9 hlaid ol trivial (by rw [el]; exact p9.at_) m5 s5⟩)
    · k_dflt (refine' Mine.m_isF (x₀ := Str.empty) (vs := []) (fun h => absurd rfl h) F2 ?X (topRead_of ?T) rfl (.cast ?e (show (((n % 4 : Nat) : Int) == 0) = false by rw [h4]; rfl)) ?_; (case X => k_asm); (case T => k_asm); (case e => walk_at "m_tst"))
      intro k4
      refine wpAny_execs_cons (wpAny_If ?_)
      k_dflt (refine' Mine.m_isF (x₀ := Str.empty) (vs := []) (fun h => absurd rfl h) F2 ?X (topRead_of ?T) rfl (.cast ?e (show (((n % 4 : Nat) : Int) == 1) = false by rw [h4]; rfl)) ?_; (case X => k_asm); (case T => k_asm); (case e => walk_at "m_tst"))
      intro k5
      refine wpAny_execs_cons (wpAny_If ?_)
      k_dflt (refine' Mine.m_isF (x₀ := Str.empty) (vs := []) (fun h => absurd rfl h) F2 ?X (topRead_of ?T) rfl (.cast ?e (show (((n % 4 : Nat) : Int) == 2) = false by rw [h4]; rfl)) ?_; (case X => k_asm); (case T => k_asm); (case e => walk_at "m_tst"))
      intro k6
      k_steps
      unfold Hold
      k_dflt ((refine' Mine.m_addL 30 (rfl : (30 : Int) = ((30 : Nat) : Int)) ?_); k_whole)
      k_steps
      unfold Hold
      k_dflt (refine' Ctl.uP (c_mkval (t := 30 + n / 4 % 211) (vs := []) (as := []) .nil (Nat.le_add_right _ _) (Nat.lt_trans (Nat.add_lt_add_left hnum 30) (by decide)) (Nat.zero_le _) (fun _ h => nomatch h) hl) ?B ?F ?X ?N ?T ?hk ?hp ?d ?u ?_; walk_at "m_ctl"; (case hp => exact ⟨hkt.mono fun p hp => .tail _ hp, .head _⟩))
      intro k9 t9 h9 tk9 news9 R9 F9 N9 p9
      k_steps
      unfold Hold
      k_dflt (refine' m_append F9 N9 (p9.keep _ (.tail _ hlaid) ol) hvz ?_)
      intro h5 n5 F5 N5 m5 s5
      k_steps
      unfold Hold KP
      exact hK _ (.mk F5 N5 ⟨_, by rw [el]; rfl, R9, k9, t9, _, .put (fun p hp => .tail _ hp) p9 N9 hlaid ol (Nat.zero_le _) (by rw [el]; exact ⟨3, [], .inr rfl, p9.at_, rfl⟩) m5 s5⟩)
end Mine

end
theorem Mine.top_offNF1 : True := by w_top off; trivial
theorem Mine.turnNF1 {M : Model} {A : Around} {env : Env} {Q : Flow → Shared → Prop} {E : Value → Shared → Prop} {s : Shared} (h : Q .next s) : wpAny M A (execs [] env) Q E s := by walk1; exact h
section
-- F3_defs
namespace Mine
open PySem.Spec PyProof.V PySem.Calls
/-- the table when rows are laid outright -/
structure TabOk (T : KtA) (R : List TRow) (news : List (Addr × Obj)) : Prop where
  kt : KtAt news T.kt T.rows T.idx T.dep T.wei T.opn
  rows : RowsAt T.rows R news
theorem KTOk.tab {w : World} {T : KtA} {R : List TRow} {news : List (Addr × Obj)} (h : KTOk w T R news) : TabOk T R news := ⟨h.kt, h.rows⟩
theorem TabOk.mono {T : KtA} {R : List TRow} {news news' : List (Addr × Obj)} (h : TabOk T R news) (hs : ∀ p ∈ news, p ∈ news') : TabOk T R news' := ⟨h.kt.mono hs, h.rows.mono hs⟩
/-- what the law has laid -/
structure LS where
  R : List TRow
  laid : List Nat
  rows : List LRow
def layR (laid : List Nat) : LRow → TRow
  | .typ n ps => .three (2 + n % 2) n (ps.map fun j => laid.getD j 0)
  | .meth n ps => .four ((ps.map fun j => laid.getD j 0).headD 0) n (ps.map fun j => laid.getD j 0).tail
  | .round n x => .two (roundSort n) (laid.getD x 0)
  | _ => .two 0 0
def LS.lay (s : LS) (r : LRow) : LS := ⟨s.R ++ [layR s.laid r], s.laid ++ [s.R.length], s.rows ++ [r]⟩
def LRow.lays : LRow → Prop
  | .typ n ps => n < 1000 ∧ ps.length ≤ 5
  | .meth n ps => n < 1000 ∧ 0 < ps.length ∧ ps.length ≤ 5
  | .round n _ => n < 5
  | _ => False
inductive IntsIn (l : Addr) (ns : List Nat) (news : List (Addr × Obj)) : Prop
  | mk (vs : List Value) (n : Nat) (h : (l, W.listOf vs.toArray n) ∈ news) (i : IntsAre vs (zs ns)) : IntsIn l ns news
inductive LRowsL (l : Addr) (rs : List LRow) (news : List (Addr × Obj)) : Prop
  | mk (lv : List Value) (n : Nat) (h : (l, W.listOf lv.toArray n) ∈ news) (r : LRowsIn news lv rs) : LRowsL l rs news
structure LAt (T : KtA) (laidA lrowsA : Addr) (s : LS) (news : List (Addr × Obj)) : Prop where
  tab : TabOk T s.R news
  laid : IntsIn laidA s.laid news
  rows : LRowsL lrowsA s.rows news
theorem LRowsIn.tups {news news' : List (Addr × Obj)} {lv : List Value} {rows : List LRow} (ht : TupSub news news') (h : LRowsIn news lv rows) : LRowsIn news' lv rows := ⟨h.1, fun i r e => (h.2 i r e).imp fun _ q => ⟨q.1, q.2.tups ht⟩⟩
theorem LAt.mono {T : KtA} {laidA lrowsA : Addr} {s : LS} {news news' : List (Addr × Obj)} (h : LAt T laidA lrowsA s news) (hs : ∀ p ∈ news, p ∈ news') : LAt T laidA lrowsA s news' :=
  ⟨h.tab.mono hs, h.laid.rec fun vs n h i => ⟨vs, n, hs _ h, i⟩, h.rows.rec fun lv n h r => ⟨lv, n, hs _ h, r.tups fun _ _ _ => hs _⟩⟩
theorem get_map {laid : List Nat} {ps : List Nat} (h : ∀ j ∈ ps, j < laid.length) : ps.map (fun j => laid[j]?) = (ps.map fun j => laid.getD j 0).map some := by
  rw [List.map_map]
  refine List.map_congr_left fun j hj => ?_
  rw [Function.comp, List.getD_eq_getElem?_getD, List.getElem?_eq_getElem (h j hj)]; rfl
theorem lrows_snoc {news news' : List (Addr × Obj)} {lv : List Value} {rows : List LRow} {v : Value} {r : LRow} (h : LRowsIn news lv rows) (ht : TupSub news news') (hv : LRowIn news' v r) : LRowsIn news' (lv ++ [v]) (rows ++ [r]) := by
  refine ⟨by rw [len_snoc, len_snoc, h.1], fun i r' hr' => ?_⟩
  rcases get_snoc hr' with h1 | ⟨h1, e⟩
  · exact (h.2 i r' h1).imp fun v' q => ⟨by rw [List.getElem?_append_left (List.getElem?_eq_some_iff.mp q.1).1]; exact q.1, q.2.tups ht⟩
  · exact ⟨v, by rw [h1, ← h.1]; exact List.getElem?_concat_length, e ▸ hv⟩
theorem rows_snoc {news news' : List (Addr × Obj)} {l a : Addr} {vs : List Value} {n : Nat} {R : List TRow} {row : TRow} (hl : vs.length = R.length) (h : ∀ (k : Nat) (r : TRow), R[k]? = some r → ∃ v, vs[k]? = some v ∧ RowIn news v r) (ht : TupSub news news') (hrow : RowIn news' (.ref a) row) (hm : (l, W.listOf (vs ++ [Value.ref a]).toArray n) ∈ news') : RowsAt l (R ++ [row]) news' := by
  refine ⟨_, n, hm, by rw [len_snoc, len_snoc, hl], fun k r hr => ?_⟩
  rcases get_snoc hr with h1 | ⟨h1, e⟩
  · exact (h k r h1).imp fun v' q => ⟨by rw [List.getElem?_append_left (List.getElem?_eq_some_iff.mp q.1).1]; exact q.1, q.2.tups ht⟩
  · exact ⟨.ref a, by rw [h1, ← hl]; exact List.getElem?_concat_length, e ▸ hrow⟩
theorem has_at {laid ps as : List Nat} {q j : Nat} (h : ps.map (fun j => laid[j]?) = as.map some) (hq : ps[q]? = some j) : ∃ k, as[q]? = some k ∧ laid[j]? = some k := by
  have h1 := congrArg (fun l => l[q]?) h
  simp only [List.getElem?_map, hq, Option.map_some] at h1
  cases e : as[q]? with
  | none => rw [e] at h1; cases h1
  | some k => rw [e] at h1; exact ⟨k, rfl, Option.some.inj h1⟩
theorem comp_ints {as : List Nat} {ys : List Value} (hl : ys.length = as.length) (h : ∀ (q : Nat) (y : Value), ys[q]? = some y → ∃ k t, as[q]? = some k ∧ y = Value.int ((k : Nat) : Int) t) : IntsAre ys (zs as) := by
  induction as generalizing ys with
  | nil => rw [List.length_eq_zero_iff.mp hl]; exact .nil
  | cons a as ih =>
    cases ys with
    | nil => cases hl
    | cons y ys =>
      obtain ⟨k, t, h1, h2⟩ := h 0 y rfl
      cases h1
      rw [h2]
      exact .cons _ _ (ih (Nat.succ.inj hl) fun q z hz => h (q + 1) z hz)
/-- the objects of what is laid, while it is changed -/
def KeptL (T : KtA) (laidA lrowsA : Addr) (news news' : List (Addr × Obj)) : Prop := TupSub news news' ∧ ∀ p ∈ news, p.1 ≠ T.rows → p.1 ≠ laidA → p.1 ≠ lrowsA → p ∈ news'
theorem KeptL.trans {T : KtA} {laidA lrowsA : Addr} {n1 n2 n3 : List (Addr × Obj)} (h : KeptL T laidA lrowsA n1 n2) (h' : KeptL T laidA lrowsA n2 n3) : KeptL T laidA lrowsA n1 n3 := ⟨fun a vs n q => h'.1 a vs n (h.1 a vs n q), fun p hp a b c => h'.2 p (h.2 p hp a b c) a b c⟩
theorem KeptL.of {T : KtA} {laidA lrowsA : Addr} {n1 n2 : List (Addr × Obj)} (h : ∀ p ∈ n1, p ∈ n2) : KeptL T laidA lrowsA n1 n2 := ⟨fun _ _ _ q => h _ q, fun p hp _ _ _ => h p hp⟩
structure LayL (T : KtA) (laidA lrowsA : Addr) (rv : List Value) (nr : Nat) (vs : List Value) (n1 : Nat) (lv : List Value) (n2 : Nat) (news : List (Addr × Obj)) : Prop where
  kt : KtAt news T.kt T.rows T.idx T.dep T.wei T.opn
  rows : (T.rows, W.listOf rv.toArray nr) ∈ news
  laid : (laidA, W.listOf vs.toArray n1) ∈ news
  lrows : (lrowsA, W.listOf lv.toArray n2) ∈ news
  n12 : laidA ≠ lrowsA
  n1r : laidA ≠ T.rows
  n2r : lrowsA ≠ T.rows
section
variable {T : KtA} {laidA lrowsA : Addr} {rv vs lv : List Value} {nr n1 n2 : Nat} {h₀ h : Heap} {L : Addr} {news news' : List (Addr × Obj)}
theorem LayL.mono (K : LayL T laidA lrowsA rv nr vs n1 lv n2 news) (hs : ∀ p ∈ news, p ∈ news') : LayL T laidA lrowsA rv nr vs n1 lv n2 news' := ⟨K.kt.mono hs, hs _ K.rows, hs _ K.laid, hs _ K.lrows, K.n12, K.n1r, K.n2r⟩
theorem LayL.monoN (K : LayL T laidA lrowsA rv nr vs n1 lv n2 news) (_ : News h₀ L h news') (hs : ∀ p ∈ news, p ∈ news') : LayL T laidA lrowsA rv nr vs n1 lv n2 news' := K.mono hs
theorem LayL.setLaid (K : LayL T laidA lrowsA rv nr vs n1 lv n2 news) (N : News h₀ L h news) (s : ∀ p ∈ news, p.1 ≠ laidA → p ∈ news') {vs' : List Value} {n : Nat} (hm : (laidA, W.listOf vs'.toArray n) ∈ news') : LayL T laidA lrowsA rv nr vs' n lv n2 news' ∧ KeptL T laidA lrowsA news news' :=
  ⟨⟨K.kt.off N K.laid rfl (by decide) s, s _ K.rows K.n1r.symm, hm, s _ K.lrows K.n12.symm, K.n12, K.n1r, K.n2r⟩, tup_sub N K.laid rfl (by decide) s, fun p hp _ h _ => s p hp h⟩
theorem LayL.setRows (K : LayL T laidA lrowsA rv nr vs n1 lv n2 news) (N : News h₀ L h news) (s : ∀ p ∈ news, p.1 ≠ T.rows → p ∈ news') {rv' : List Value} {n : Nat} (hm : (T.rows, W.listOf rv'.toArray n) ∈ news') : LayL T laidA lrowsA rv' n vs n1 lv n2 news' ∧ KeptL T laidA lrowsA news news' :=
  ⟨⟨K.kt.off N K.rows rfl (by decide) s, hm, s _ K.laid K.n1r, s _ K.lrows K.n2r, K.n12, K.n1r, K.n2r⟩, tup_sub N K.rows rfl (by decide) s, fun p hp h _ _ => s p hp h⟩
theorem LayL.setLrows (K : LayL T laidA lrowsA rv nr vs n1 lv n2 news) (N : News h₀ L h news) (s : ∀ p ∈ news, p.1 ≠ lrowsA → p ∈ news') {lv' : List Value} {n : Nat} (hm : (lrowsA, W.listOf lv'.toArray n) ∈ news') : LayL T laidA lrowsA rv nr vs n1 lv' n news' ∧ KeptL T laidA lrowsA news news' :=
  ⟨⟨K.kt.off N K.lrows rfl (by decide) s, s _ K.rows K.n2r.symm, s _ K.laid K.n12, hm, K.n12, K.n1r, K.n2r⟩, tup_sub N K.lrows rfl (by decide) s, fun p hp _ _ h => s p hp h⟩
end
theorem last_int {vs : List Value} {x : Value} {t : Tok} : Value.int ((((vs ++ [x]).length : Nat) : Int) - 1) t = .int ((vs.length : Nat) : Int) t := congrArg (Value.int · t) (by rw [len_snoc]; exact Int.add_sub_cancel (vs.length : Int) 1)
theorem two_at {n : Nat} {t0 t1 : Tok} : ([Value.int 2 t0, .int 3 t1] : List Value)[n % 2]? = some (.int ((2 + n % 2 : Nat) : Int) (if n % 2 = 0 then t0 else t1)) := by
  have h := Nat.mod_lt n (show 2 > 0 by decide)
  generalize n % 2 = q at h
  match q, h with
  | 0, _ => rfl
  | 1, _ => rfl
  | q + 2, h => exact absurd h (Nat.not_lt.mpr (Nat.le_add_left 2 q))
theorem five_at {n : Nat} {t0 t1 t2 t3 t4 : Tok} (h : n < 5) : ([Value.int 4 t0, .int 5 t1, .int 8 t2, .int 9 t3, .int 11 t4] : List Value)[n]? = some (.int ((roundSort n : Nat) : Int) (([t0, t1, t2, t3, t4] : List Tok).getD n t0)) :=
  match n, h with
  | 0, _ => rfl
  | 1, _ => rfl
  | 2, _ => rfl
  | 3, _ => rfl
  | 4, _ => rfl
  | n + 5, h => absurd h (Nat.not_lt.mpr (Nat.le_add_left 5 n))
section
variable {prog : Program} {w : World} {A : Around} {E : Value → Shared → Prop} {s : Shared} {h₀ : Heap} {L l : Addr} {m : Str → Option Value} {news : List (Addr × Obj)} {value slice : PySem.Expr} {Q : Value → Shared → Prop}
theorem m_sliceT1 {v : Value} {ys : List Value} {n : Nat} {u : Tok} (F : Fr h₀ L s.heap m) (N : News h₀ L s.heap news) (hm : (l, tupOf (v :: ys) n) ∈ news) (hz : ys.length ≤ 16000)
    (h : ∀ D h', Fr h₀ L h' m → News h₀ L h' ((D, tupOf ys 0) :: news) → Q (.ref D) { s with heap := h' })
    (hs : subscripted slice false (.ref l) (.ref s.heap.objs.size) = operate [.ref s.heap.objs.size, .ref l] (getItem (.ref l) (.ref s.heap.objs.size))) (ht : ∀ r, letTemporaryGo value (.ref l) r = pure ()) :
    wpAny (model prog w) A (subscriptTail value slice (.ref l) (.ref s.heap.objs.size)) Q E { s with heap := s.heap.push { cls := .type "slice", data := .fields #[.int 1 u, .none, .none] } } :=
  slice_tuple_from (a := 1) F N ⟨_, (N _ hm).1, rfl, n, rfl⟩ (by decide) (by simp) (fun h' F' N' => h _ h' F' (by simpa using N')) hs ht (by have : sizeLine = 16777216 := rfl; simp; omega)
end
theorem row3_of {h₀ h : Heap} {L D Dt : Addr} (s n : Nat) {as : List Nat} {ys : List Value} {t1 t2 : Tok} {k k' : Nat} {news : List (Addr × Obj)} (_ : News h₀ L h news) (hm : (D, tupOf [.int (s : Int) t1, .int (n : Int) t2, .ref Dt] k) ∈ news) (hb : (Dt, tupOf ys k') ∈ news) (hi : IntsAre ys (zs as)) : RowIn news (.ref D) (.three s n as) := ⟨D, Dt, ys, t1, t2, k, k', rfl, hm, hb, hi⟩
theorem row4_of {h₀ h : Heap} {L D Dt : Addr} (o n : Nat) {as : List Nat} {ys : List Value} {t0 t1 t2 : Tok} {k k' : Nat} {news : List (Addr × Obj)} (_ : News h₀ L h news) (hm : (D, tupOf [.int 10 t0, .int (o : Int) t1, .int (n : Int) t2, .ref Dt] k) ∈ news) (hb : (Dt, tupOf ys k') ∈ news) (hi : IntsAre ys (zs as)) : RowIn news (.ref D) (.four o n as) := ⟨D, Dt, ys, t0, t1, t2, k, k', rfl, hm, hb, hi⟩
inductive LayOk (T : KtA) (laidA lrowsA : Addr) (s : LS) (r : LRow) (news : List (Addr × Obj)) (x : Value) (news' : List (Addr × Obj)) : Prop
  | mk (t : Tok) (e : x = .int ((s.laid.length : Nat) : Int) t) (at_ : LAt T laidA lrowsA (s.lay r) news') (keep : ∀ p ∈ news, p.1 ≠ T.rows → p.1 ≠ laidA → p.1 ≠ lrowsA → p ∈ news') : LayOk T laidA lrowsA s r news x news'
theorem Ctl.uY {hp0 : Heap} {tk0 : Nat} {w : World} {T : KtA} {laidA lrowsA : Addr} {st : LS} {r : LRow} {f : Value} {args : List Value} {dpN unN : Nat} {pre : List (Addr × Obj) → Prop} (C : Ctl w f args dpN unN pre (LayOk T laidA lrowsA st r))
    {dp un : Nat} {gd : Option (List Code)} {cn : Str} {cs : Scope} {a : Addr} {ccd : Value} {cl : List (Str × Addr)} {outer : List Env} {A₀ : Around} {base h₀ : Heap} {L : Addr} {m : Str → Option Value} {news : List (Addr × Obj)} {s : Shared}
    {mean : ExcName → Option Value} {mg mb : Str → Option Value} {Q E : Value → Shared → Prop}
    (B : Below A₀ base outer h₀) (F : Fr h₀ L hp0 m) (X : (hd.heap_1 w.params).In h₀) (N : News h₀ L hp0 news)
    (T' : Top hd.view_1 (looseW hd.view_1 [Str.ofString "TID_PRIM", Str.ofString "AROUND_WORDS"]) mean mg mb h₀) (hk : cs.kind = .function) (hp : pre news) (hd : dp + dpN < recursionLimit) (hu : un + unN < cLine)
    (ret : ∀ t h' tk' news', Fr h₀ L h' m → News h₀ L h' news' → LAt T laidA lrowsA (st.lay r) news' → (∀ p ∈ news, p.1 ≠ T.rows → p.1 ≠ laidA → p.1 ≠ lrowsA → p ∈ news') → Q (.int ((st.laid.length : Nat) : Int) t) { s with heap := h', toks := tk' }) :
    wpAny (model PySem.Challenge.rw_xw0069_01.row.prog w) (ktrTop dp un gd cn cs L a ccd cl outer) (call f args) Q E { s with heap := hp0, toks := tk0 } :=
  C.use B F X N T' hk hp hd hu fun _ h' tk' news' F' N' p => p.rec fun t e at_ keep => e ▸ ret t h' tk' news' F' N' at_ keep
theorem lays_num {r : LRow} (h : r.lays) : r.num < 1000 ∧ r.parts.length ≤ 5 := by
  cases r with
  | typ n ps => exact h
  | meth n ps => exact ⟨h.1, h.2.2⟩
  | round n x => exact ⟨Nat.lt_trans h (by decide), Nat.le_add_left 1 4⟩
  | _ => exact h.elim
/-- the rows of a step -/
def stepR (n x y z len : Nat) : List LRow :=
  if n % 8 = 0 then [.meth (n / 8 % 977) [x]] else if n % 8 = 1 then [.meth (n / 8 % 977) [x, y]] else if n % 8 = 2 then [.meth (n / 8 % 977) [z, x]] else if n % 8 = 3 then [.meth (n / 8 % 977) [x, 2 + n / 8 % 2, y]]
  else if n % 8 = 4 then [.typ (30 + n / 8 % 211) [x]] else if n % 8 = 5 then [.typ (30 + n / 8 % 211) [y, x]] else if n % 8 = 6 then [.round (n / 8 % 5) x] else [.round (n / 8 % 5) x, .round (n / 8 / 5 % 5) len]
def LS.lays (s : LS) : List LRow → LS
  | [] => s
  | r :: rs => (s.lay r).lays rs
def stepS (s : LS) (sp : List Nat) (n : Nat) : LS × List Nat :=
  let x := sp.getD (sp.length - 1) 0
  let y := sp.getD (sp.length - 2) 0
  let s' := s.lays (stepR n x y (sp.getD (n / 8 / 977 % sp.length) 0) s.laid.length)
  (s', sp ++ [s'.laid.length - 1])
section
variable {prog : Program} {w : World} {A : Around} {E : Value → Shared → Prop} {s : Shared} {h₀ : Heap} {L a : Addr} {news : List (Addr × Obj)}
theorem m_itemNeg {value slice : PySem.Expr} {vs : List Value} {n : Nat} {k : Int} {u : Tok} {x : Value} {Q : Value → Shared → Prop} (N : News h₀ L s.heap news) (hm : (a, W.listOf vs.toArray n) ∈ news) (h0 : k < 0) (h1 : -(vs.length : Int) ≤ k) (hfit : -(2 ^ 63) ≤ k) (hx : vs[(k + (vs.length : Int)).toNat]? = some x) (h : Q x s)
    (hs : subscripted slice false (.ref a) (.int k u) = operate [.ref a, .int k u] (getItem (.ref a) (.int k u)) := by with_unfolding_all rfl) :
    wpAny (model prog w) A (subscriptTail value slice (.ref a) (.int k u)) Q E s :=
  have hl : s.heap.IsList a vs.toArray := ⟨_, (N _ hm).1, rfl, n, rfl⟩
  tail_any hl.typeIs slot_list_getitem.lookup (wpAny_getItem_list_neg hl h0 (by simpa using h1) hfit (by simpa using hx) h) hs
end
end Mine

-- M12_mac
local macro_rules | `(tactic| walk_at "storeName") => `(tactic| (k_here; k_dflt (refine' Mine.m_storeC ?F ?N ?c ?m ?d ?_ ?a ?b; (case a => rfl); (case b => rfl); (case F => k_asm); (case N => k_asm); (case c => rfl); (case m => k_mem); (case d => assumption); k_whole; intro h9 o9 news9 F9 N9 m9 d9 s9)))

-- F2_lay
local macro_rules | `(tactic| walk_at $k:str) => do
  if ["eval ListComp", "execs cons If", "subscriptTail", "binaryOp Mod int int", "getAttr ref", "call builtin:len"].contains k.getString then `(tactic| refine Mine.hold_ ?_) else Lean.Macro.throwUnsupported
namespace Mine
open PySem.Spec PyProof.V PySem.Calls
set_option maxHeartbeats 16000000 in
theorem c_lay {w : World} {T : KtA} {laidA lrowsA b : Addr} {s : LS} {r : LRow} {pv : List Value} {n3 : Nat} {tf tn : Tok} (hr : r.lays) (hps : ∀ j ∈ r.parts, j < s.laid.length) (hl : s.R.length < 1000) (hl2 : s.laid.length ≤ 1000) (hl3 : s.rows.length ≤ 1000)
    (hp : IntsAre pv (zs r.parts)) (n12 : laidA ≠ lrowsA) (n1r : laidA ≠ T.rows) (n2r : lrowsA ≠ T.rows) :
    Ctl w (.ref 276) [.ref T.kt, .ref laidA, .ref lrowsA, .str r.form tf, .int (r.num : Int) tn, .ref b] 10 200 (fun news => LAt T laidA lrowsA s news ∧ (b, tupOf pv n3) ∈ news) (LayOk T laidA lrowsA s r) := by
  unfold Ctl
  k_fill
  intro dp un gd cn cs' ax ccd cl outer A₀ base h₀ L m news sh mean mg mb Q E B F X N TP hk hpre hroom hunits ret
  refine hideG ?_
  intro P k9
  obtain ⟨rv, nr, hrows, hrl, hrin⟩ := hpre.1.tab.rows
  obtain ⟨vs, n1, hlaid, hi⟩ := hpre.1.laid
  obtain ⟨lv, n2, hlr, hlin⟩ := hpre.1.rows
  have K0 : LayL T laidA lrowsA rv nr vs n1 lv n2 news := ⟨hpre.1.tab.kt, hrows, hlaid, hlr, n12, n1r, n2r⟩
  have hb := hpre.2
  have has := get_map hps
  have hpl := (lays_num hr).2
  have hplv := ints_len hp
  have hvl := ints_len hi
  have hz1 : vs.length ≤ 16384 := by rw [hvl]; exact Nat.le_trans hl2 (by decide)
  have hz2 : rv.length ≤ 16384 := by rw [hrl]; exact Nat.le_trans (Nat.le_of_lt hl) (by decide)
  have hz3 : lv.length ≤ 16384 := by rw [hlin.1]; exact Nat.le_trans hl3 (by decide)
  have hzp : pv.toArray.size ≤ sizeLine := by rw [List.size_toArray, hplv]; exact Nat.le_trans hpl (by decide)
  generalize hinn : (r.parts.map fun j => s.laid.getD j 0) = inn at has
  have hil : inn.length = r.parts.length := by rw [← hinn, List.length_map]
  refine k9 ?_
  clear k9 hpre hrows hlaid hlr
  refine wpAny_call ?_
  k_dflt ((refine' code_defC ?k1 ?k2 ?k3 ?k4 ?k5 ?kA ?kF ?kK ?k6 ?k7 ?k8 ?k9 ?kB ?kD ?_ ?c2 ?c3 ?c4; (case kA => exact rfl); (case kF => exact rfl); (case kK => assumption); (case k1 => k_asm); (case k2 => k_asm); (case k3 => k_asm); (case k4 => k_asm); (case k5 => k_asm); (case k6 => k_is); (case k7 => k_is); (case k8 => ktr_room); (case k9 => exact BindsTo.of_eq rfl); (case kB => exact rfl); (case kD => decide +kernel); (case c2 => exact rfl); (case c3 => exact rfl); (case c4 => exact rfl); k_whole; intro _ _ _ _ _ _ _ _ _ _ _ _ _; (try dsimp only); (try k_fold)))
  rename_i g1 L1 h1 tk1 cells1 FG1 F1 N1 Y1 B1 X1 T1 l1
  refine hideG ?_
  intro P k9
  obtain ⟨o1, hE, d1⟩ := CellsAre.one Y1
  subst hE
  have hc1 := Nat.lt_succ_of_lt (l1 _ K0.laid)
  have hc2 := Nat.lt_succ_of_lt (l1 _ K0.lrows)
  have hc3 := Nat.lt_succ_of_lt (l1 _ K0.rows)
  refine k9 ?_
  clear k9 Y1
  simp only [List.cons_append, List.nil_append] at N1
  replace d1 : o1.data = .cell (some (.ref laidA)) := d1
  replace F1 := fr_of (fun y => if y = Str.ofString "parts" then some (.ref b) else if y = Str.ofString "number" then some (.int (r.num : Int) tn) else if y = Str.ofString "form" then some (.str r.form tf) else if y = Str.ofString "rows" then some (.ref lrowsA) else if y = Str.ofString "kt" then some (.ref T.kt) else none) F1 (by with_unfolding_all rfl)
  k_steps
  unfold Hold
  refine m_compE F1 (G := fun q y => ∃ k t, inn[q]? = some k ∧ y = Value.int ((k : Nat) : Int) t) (ax := b) (its := pv.toArray) (k := n3) (by with_unfolding_all rfl) (by decide) rfl (by decide) rfl rfl ?_
  walk1
  refine ⟨_, rfl, F1, N1, .tail _ hb, hzp, ?_, ?_⟩
  · intro q v2 I2 oI2 C2 oC2 D2 ys2 m2 h2 tk2 E2 hv2 hC2 hx2 F5 N5
    refine hideG ?_
    intro P k9
    obtain ⟨j, tj, hj, e⟩ := ints_at hp (i := q) (v := v2) (by simpa using hv2)
    subst e
    obtain ⟨k, hk1, hk2⟩ := has_at has hj
    have hj9 := (List.getElem?_eq_some_iff.mp hk2).1
    obtain ⟨x9, t9, hx9, hxv⟩ := ints_get hi rfl hj9
    have e9 : x9 = k := Option.some.inj (hx9.symm.trans hk2)
    subst e9
    have hj1000 : j < 1000 := Nat.lt_of_lt_of_le hj9 hl2
    refine k9 ?_
    clear F1 N1 k9 hv2
    k_steps
    unfold Hold
    with_reducible rename News _ _ _ _ => N6
    k_dflt (refine' m_itemL N6 (.tail _ (.tail _ (.tail _ (.tail _ K0.laid)))) hxv (Int.natCast_nonneg _) (n63 hj1000 rfl) ?_)
    exact EltEnd.intro ⟨_, _, hk1, rfl⟩ (by assumption) N6 (fun p hp => hp)
  · intro D ys h9 tk9 hyl hyG F5 N5 hDn
    have hys : IntsAre ys (zs inn) := comp_ints (by rw [hyl, List.size_toArray, hplv, hil]) hyG
    clear F1 N1
    k_steps
    unfold Hold
    with_reducible rename Fr _ _ _ _ => F2
    with_reducible rename News _ _ _ _ => N2
    refine wpAny_execs_cons ?_
    refine' midV (Str.ofString "row") (fun v news' => ∃ D : Addr, v = .ref D ∧ RowIn news' (.ref D) (layR s.laid r) ∧ ∀ p ∈ ((L1 + 1, o1) : Addr × Obj) :: news, p ∈ news') F2 ?h2 ?h1
    case h1 =>
      intro K hK
      refine wpAny_If ?_
      cases r with
      | word n => exact hr.elim
      | var n => exact hr.elim
      | mvar n => exact hr.elim
      | typ n ps =>
        dsimp only [LRow.form, LRow.num] at F2
        k_steps
        unfold Hold
        refine wpAny_execs_cons (wpAny_If ?_)
        k_steps
        unfold Hold
        k_dflt ((refine' Mine.m_modK 2 (rfl : (2 : Int) = ((2 : Nat) : Int)) (by decide) ?_); k_whole)
        k_steps
        unfold Hold
        with_reducible rename News _ _ _ _ => N3
        refine m_itemTup N3 (.head _) (vs := [.int 2 _, .int 3 _]) (n := 0) (k := ((n % 2 : Nat) : Int)) two_at (Int.natCast_nonneg _) (n63 (Nat.mod_lt n (show 2 > 0 by decide)) rfl) ?_
        k_steps
        unfold Hold KP
        with_reducible rename News _ _ _ _ => N4
        exact hK _ (.mk (by assumption) N4 ⟨_, rfl, row3_of _ _ N4 (.head _) (.tail _ (.tail _ (.head _))) (by exact hinn ▸ hys), fun p hp => .tail _ (.tail _ (.tail _ (.tail _ hp)))⟩)
      | meth n ps =>
        dsimp only [LRow.form, LRow.num] at F2
        refine hideG ?_
        intro P k9
        cases inn with
        | nil => exact absurd hil.symm (Nat.ne_of_gt hr.2.1)
        | cons o as =>
        obtain ⟨t0, ys', e0, hys'⟩ := IntsAre.cons_inv (n := (o : Int)) (ns := zs as) hys
        subst e0
        have hinn' : layR s.laid (.meth n ps) = .four o n as := by
          show TRow.four ((ps.map fun j => s.laid.getD j 0).headD 0) n (ps.map fun j => s.laid.getD j 0).tail = _
          rw [show (ps.map fun j => s.laid.getD j 0) = o :: as from hinn]; rfl
        have hyz : ys'.length ≤ 16000 := by
          rw [ints_len hys']
          exact Nat.le_trans (Nat.le_of_succ_le (Nat.le_trans (Nat.le_of_eq hil) hpl)) (by decide)
        refine k9 ?_
        clear k9
        k_steps
        unfold Hold
        k_dflt (refine' m_itemTup N2 (.head _) (x := .int (o : Int) t0) (k := 0) rfl (Int.le_refl 0) (by decide) ?_)
        k_steps
        unfold Hold
        k_dflt (refine' m_sliceT1 ?sF ?sN (.head _) hyz ?_ ?ss ?st; (case sF => k_asm); (case sN => k_asm); (case ss => with_unfolding_all rfl); (case st => kmk_pure))
        intro D6 h6 F6 N6
        k_steps
        unfold Hold KP
        with_reducible rename News _ _ _ _ => N7
        exact hK _ (.mk (by assumption) N7 ⟨_, rfl, hinn'.symm ▸ row4_of o n N7 (.head _) (.tail _ (.head _)) hys', fun p hp => .tail _ (.tail _ (.tail _ (.tail _ hp)))⟩)
      | round n x =>
        dsimp only [LRow.form, LRow.num] at F2
        refine hideG ?_
        intro P k9
        rw [← hinn] at hys
        obtain ⟨t0, ys', e0, hys'⟩ := IntsAre.cons_inv (n := ((s.laid.getD x 0 : Nat) : Int)) (ns := []) hys
        subst e0
        refine k9 ?_
        clear k9
        k_steps
        unfold Hold
        refine wpAny_execs_cons (wpAny_If ?_)
        k_steps
        unfold Hold
        with_reducible rename News _ _ _ _ => N3
        refine m_itemTup N3 (.head _) (vs := [.int 4 _, .int 5 _, .int 8 _, .int 9 _, .int 11 _]) (n := 0) (k := ((n : Nat) : Int)) (five_at hr) (Int.natCast_nonneg _) (n63 hr rfl) ?_
        k_steps
        unfold Hold
        k_dflt (refine' m_itemTup N3 (.tail _ (.head _)) (x := .int ((s.laid.getD x 0 : Nat) : Int) t0) (k := 0) rfl (Int.le_refl 0) (by decide) ?_)
        k_steps
        unfold Hold KP
        with_reducible rename News _ _ _ _ => N7
        exact hK _ (.mk (by assumption) N7 ⟨_, rfl, row2_of _ _ N7 (.head _), fun p hp => .tail _ (.tail _ (.tail _ (.tail _ hp)))⟩)
    case h2 =>
      intro v3 h3 k3 news3 P3 F3 N3
      refine hideG ?_
      intro P k9
      obtain ⟨D3, ev, hrow, s3⟩ := P3
      subst ev
      have K3 := K0.mono fun p hp => s3 p (.tail _ hp)
      have hb3 := s3 _ (.tail _ hb)
      have hc3' := s3 _ (.head _)
      refine k9 ?_
      have hl3' := K3.laid
      clear k9
      k_steps
      unfold Hold
      k_dflt (refine' m_kt_rows K3.kt F3 ?X N3 ?_; (case X => k_asm))
      k_steps
      unfold Hold
      k_dflt (refine' m_lenL N3 K3.rows hz2 ?_)
      k_steps
      unfold Hold
      k_dflt (refine' m_append F3 N3 hl3' hz1 ?_)
      intro h4 n4 F4 N4 m4 s4
      have K4 := K3.setLaid N3 s4 m4
      have c4 := s4 _ hc3' (Nat.ne_of_gt hc1)
      clear hl3'
      k_steps
      unfold Hold
      k_dflt (refine' m_kt_rows K4.1.kt F4 ?X N4 ?_; (case X => k_asm))
      have hr4 := K4.1.rows
      k_steps
      unfold Hold
      k_dflt (refine' m_append F4 N4 hr4 hz2 ?_)
      intro h5 n5 F5 N5 m5 s5
      have K5 := K4.1.setRows N4 s5 m5
      have c5 := s5 _ c4 (Nat.ne_of_gt hc3)
      have hr5 := K5.1.lrows
      clear hr4
      k_steps
      unfold Hold
      with_reducible rename Fr _ _ _ _ => F6
      with_reducible rename News _ _ _ _ => N6
      have hlrow := lrow_of N6 (.head _) (.tail _ (K5.2.1 _ _ _ (K4.2.1 _ _ _ hb3))) r rfl rfl hp
      have K6 := K5.1.monoN N6 fun p hp => .tail _ hp
      k_dflt (refine' m_append F6 N6 K6.lrows hz3 ?_)
      intro h7 n7 F7 N7 m7 s7
      have K7 := K6.setLrows N6 s7 m7
      have c7 := s7 _ (.tail _ c5) (Nat.ne_of_gt hc2)
      have hl7 := K7.1.laid
      have hlrow7 := hlrow.tups K7.2.1
      have T7 := ((KeptL.of (T := T) (laidA := laidA) (lrowsA := lrowsA) s3).trans (K4.2.trans K5.2)).trans ((KeptL.of fun p hp => .tail _ hp).trans K7.2)
      clear hr5 hlrow
      k_steps
      unfold Hold
      k_dflt (refine' m_lenL N7 hl7 ?_ ?_)
      · rw [len_snoc, hvl]; exact Nat.le_trans (Nat.succ_le_succ hl2) (by decide)
      k_steps
      all_goals exact ret _ _ _ _ (by assumption) (by assumption) ⟨_, last_int.trans (by rw [hvl]), ⟨⟨K7.1.kt, rows_snoc hrl hrin (fun a us m q => T7.1 a us m (.tail _ q)) (hrow.tups fun a us m q => K7.2.1 a us m (.tail _ (K5.2.1 a us m (K4.2.1 a us m q)))) K7.1.rows⟩, ⟨_, _, hl7, hrl ▸ ints_snoc hi⟩, ⟨_, _, K7.1.lrows, lrows_snoc hlin (fun a us m q => T7.1 a us m (.tail _ q)) hlrow7⟩⟩, fun p hp => T7.2 p (.tail _ hp)⟩
end Mine

end
theorem Mine.top_offNF2 : True := by w_top off; trivial
theorem Mine.turnNF2 {M : Model} {A : Around} {env : Env} {Q : Flow → Shared → Prop} {E : Value → Shared → Prop} {s : Shared} (h : Q .next s) : wpAny M A (execs [] env) Q E s := by walk1; exact h
section
-- F4_step
namespace Mine
open PySem.Spec PyProof.V PySem.Calls
structure StepPost (T : KtA) (laidA lrowsA spA : Addr) (s : LS) (sp : List Nat) (n : Nat) (news : List (Addr × Obj)) (r : Value) (news' : List (Addr × Obj)) : Prop where
  e : r = .none
  at_ : LAt T laidA lrowsA (stepS s sp n).1 news'
  spine : IntsIn spA (stepS s sp n).2 news'
  keep : ∀ p ∈ news, p.1 ≠ T.rows → p.1 ≠ laidA → p.1 ≠ lrowsA → p.1 ≠ spA → p ∈ news'
theorem all1 {P : Nat → Prop} {a : Nat} (h : P a) : ∀ j ∈ [a], P j := fun j hj => by rw [List.mem_singleton.mp hj]; exact h
theorem all2 {P : Nat → Prop} {a b : Nat} (h : P a) (h' : P b) : ∀ j ∈ [a, b], P j := List.forall_mem_cons.mpr ⟨h, all1 h'⟩
theorem all3 {P : Nat → Prop} {a b c : Nat} (h : P a) (h' : P b) (h'' : P c) : ∀ j ∈ [a, b, c], P j := List.forall_mem_cons.mpr ⟨h, all2 h' h''⟩
theorem getD_some {l : List Nat} {i x : Nat} (h : l[i]? = some x) : l.getD i 0 = x := by rw [List.getD_eq_getElem?_getD, h]; rfl
/-- a change off what is laid leaves it -/
theorem LAt.away {T : KtA} {laidA lrowsA l : Addr} {o : Obj} {c : String} {s : LS} {h₀ h : Heap} {L : Addr} {news news' : List (Addr × Obj)} (H : LAt T laidA lrowsA s news) (N : News h₀ L h news) (hl : (l, o) ∈ news) (hc : o.cls = .type c) (h2 : c ≠ "dict") (h3 : c ≠ "tuple") (hr : T.rows ≠ l) (ha : laidA ≠ l) (hb : lrowsA ≠ l) (hs : ∀ p ∈ news, p.1 ≠ l → p ∈ news') : LAt T laidA lrowsA s news' :=
  have ht := tup_sub N hl hc h3 hs
  ⟨⟨H.tab.kt.off N hl hc h2 hs, H.tab.rows.off ht fun _ q => hs _ q hr⟩, H.laid.rec fun vs n h i => ⟨vs, n, hs _ h ha, i⟩, H.rows.rec fun lv n h r => ⟨lv, n, hs _ h hb, r.tups ht⟩⟩
/-- the parts of a method's pointer -/
def partsOf (k x y z m : Nat) : List Nat := ([[x], [x, y], [z, x], [x, 2 + m, y]] : List (List Nat)).getD k []
theorem four_at {h₀ hh : Heap} {L : Addr} {news : List (Addr × Obj)} {k x y z m : Nat} (_ : News h₀ L hh news) (h : k < 4) {D0 D1 D2 D3 : Addr} {a0 a1 b1 a2 b2 a3 b3 c3 : Tok} {n0 n1 n2 n3 : Nat} (h0 : (D0, tupOf [.int (x : Int) a0] n0) ∈ news) (h1 : (D1, tupOf [.int (x : Int) a1, .int (y : Int) b1] n1) ∈ news) (h2 : (D2, tupOf [.int (z : Int) a2, .int (x : Int) b2] n2) ∈ news)
    (h3 : (D3, tupOf [.int (x : Int) a3, .int ((2 + m : Nat) : Int) b3, .int (y : Int) c3] n3) ∈ news) : ∃ (D : Addr) (pv : List Value) (n : Nat), ([.ref D0, .ref D1, .ref D2, .ref D3] : List Value)[k]? = some (.ref D) ∧ (D, tupOf pv n) ∈ news ∧ IntsAre pv (zs (partsOf k x y z m)) :=
  match k, h with
  | 0, _ => ⟨D0, _, _, rfl, h0, .cons _ _ .nil⟩
  | 1, _ => ⟨D1, _, _, rfl, h1, .cons _ _ (.cons _ _ .nil)⟩
  | 2, _ => ⟨D2, _, _, rfl, h2, .cons _ _ (.cons _ _ .nil)⟩
  | 3, _ => ⟨D3, _, _, rfl, h3, .cons _ _ (.cons _ _ (.cons _ _ .nil))⟩
  | k + 4, h => absurd h (Nat.not_lt.mpr (Nat.le_add_left 4 k))
theorem parts_all {P : Nat → Prop} {k x y z m : Nat} (h : k < 4) (hx : P x) (hy : P y) (hz : P z) (hm : P (2 + m)) : (∀ j ∈ partsOf k x y z m, P j) ∧ 0 < (partsOf k x y z m).length ∧ (partsOf k x y z m).length ≤ 5 :=
  match k, h with
  | 0, _ => ⟨all1 hx, Nat.zero_lt_succ _, Nat.le_add_left 1 4⟩
  | 1, _ => ⟨all2 hx hy, Nat.zero_lt_succ _, Nat.le_add_left 2 3⟩
  | 2, _ => ⟨all2 hz hx, Nat.zero_lt_succ _, Nat.le_add_left 2 3⟩
  | 3, _ => ⟨all3 hx hm hy, Nat.zero_lt_succ _, Nat.le_add_left 3 2⟩
  | k + 4, h => absurd h (Nat.not_lt.mpr (Nat.le_add_left 4 k))
theorem step_ways (n x y z len : Nat) : (n % 8 < 4 ∧ stepR n x y z len = [.meth (n / 8 % 977) (partsOf (n % 8) x y z (n / 8 % 2))]) ∨ (n % 8 = 4 ∧ stepR n x y z len = [.typ (30 + n / 8 % 211) [x]]) ∨ (n % 8 = 5 ∧ stepR n x y z len = [.typ (30 + n / 8 % 211) [y, x]]) ∨
    (n % 8 = 6 ∧ stepR n x y z len = [.round (n / 8 % 5) x]) ∨ (n % 8 = 7 ∧ stepR n x y z len = [.round (n / 8 % 5) x, .round (n / 8 / 5 % 5) len]) := by
  unfold stepR
  have h := Nat.mod_lt n (show 8 > 0 by decide)
  generalize n % 8 = q at h
  match q, h with
  | 0, _ => exact .inl ⟨by decide, rfl⟩
  | 1, _ => exact .inl ⟨by decide, rfl⟩
  | 2, _ => exact .inl ⟨by decide, rfl⟩
  | 3, _ => exact .inl ⟨by decide, rfl⟩
  | 4, _ => exact .inr (.inl ⟨rfl, rfl⟩)
  | 5, _ => exact .inr (.inr (.inl ⟨rfl, rfl⟩))
  | 6, _ => exact .inr (.inr (.inr (.inl ⟨rfl, rfl⟩)))
  | 7, _ => exact .inr (.inr (.inr (.inr ⟨rfl, rfl⟩)))
  | q + 8, h => exact absurd h (Nat.not_lt.mpr (Nat.le_add_left 8 q))
theorem gt5_no {n : Nat} (h : n < 6) : decide ((5 : Int) < (n : Int)) = false := decide_eq_false fun q => absurd (Int.ofNat_lt.mp q) (Nat.not_lt.mpr (Nat.le_of_lt_succ h))
theorem gt3_no {n : Nat} (h : n < 4) : decide ((3 : Int) < (n : Int)) = false := decide_eq_false fun q => absurd (Int.ofNat_lt.mp q) (Nat.not_lt.mpr (Nat.le_of_lt_succ h))
theorem ends_at {n : Nat} (h : 2 ≤ n) : -(n : Int) ≤ -1 ∧ -(n : Int) ≤ -2 ∧ ((-1 : Int) + (n : Int)).toNat = n - 1 ∧ ((-2 : Int) + (n : Int)).toNat = n - 2 := ⟨Int.neg_le_neg (Int.ofNat_le.mpr (Nat.le_trans (by decide) h : 1 ≤ n)), Int.neg_le_neg (Int.ofNat_le.mpr h), by rw [Int.add_comm]; exact Int.toNat_sub n 1, by rw [Int.add_comm]; exact Int.toNat_sub n 2⟩
theorem lay_last (s : LS) (r : LRow) : (s.lay r).laid.length - 1 = s.laid.length := by show (s.laid ++ [s.R.length]).length - 1 = _; rw [len_snoc]; rfl
/-- the same as ValEnd, where a name more may have been stored -/
def ZEnd (h₀ : Heap) (L : Addr) (m : Str → Option Value) (x z : Str) (P : Value → List (Addr × Obj) → Prop) (s₁ : Shared) (f : Flow) (s₂ : Shared) : Prop :=
  f = .next ∧ ∃ (v : Value) (u : Option Value) (h' : Heap) (k' : Nat) (news' : List (Addr × Obj)), P v news' ∧ s₂ = { s₁ with heap := h', toks := k' } ∧ Fr h₀ L h' (fun y => if y = x then some v else if y = z then u else m y) ∧ News h₀ L h' news'
theorem ZEnd.mk {h₀ : Heap} {L : Addr} {m : Str → Option Value} {x z : Str} {P : Value → List (Addr × Obj) → Prop} {news' : List (Addr × Obj)} {s₁ : Shared} {v : Value} {u : Option Value} {h' : Heap} {k' : Nat} (F : Fr h₀ L h' (fun y => if y = x then some v else if y = z then u else m y)) (N : News h₀ L h' news') (hn : P v news') :
    ZEnd h₀ L m x z P s₁ .next { s₁ with heap := h', toks := k' } := ⟨rfl, v, u, h', k', news', hn, rfl, F, N⟩
theorem ZEnd.no {h₀ : Heap} {L : Addr} {m : Str → Option Value} {x z : Str} {P : Value → List (Addr × Obj) → Prop} {news' : List (Addr × Obj)} {s₁ : Shared} {v : Value} {h' : Heap} {k' : Nat} (F : Fr h₀ L h' (fun y => if y = x then some v else m y)) (N : News h₀ L h' news') (hn : P v news') :
    ZEnd h₀ L m x z P s₁ .next { s₁ with heap := h', toks := k' } := .mk (u := m z) (fr_of _ F (funext fun y => by
      by_cases e : y = z
      · rw [if_pos e, e]
      · rw [if_neg e])) N hn
theorem midZ {hp : Heap} {tk0 : Nat} {M : Model} {A : Around} {X : Sem Flow} {G : Flow → Shared → Prop} {E : Value → Shared → Prop} {s : Shared} {h₀ : Heap} {L : Addr} {m : Str → Option Value} (x z : Str) (P : Value → List (Addr × Obj) → Prop) (_F : Fr h₀ L hp m)
    (h2 : ∀ v u h' k' news', P v news' → Fr h₀ L h' (fun y => if y = x then some v else if y = z then u else m y) → News h₀ L h' news' → G .next { s with heap := h', toks := k' })
    (h1 : ∀ K : Flow → Shared → Prop, (∀ s', ZEnd h₀ L m x z P s .next s' → K .next s') → wpAny M A X (KP K) E { s with heap := hp, toks := tk0 }) : wpAny M A X G E { s with heap := hp, toks := tk0 } :=
  mid (ZEnd h₀ L m x z P s) (fun f s' p => by obtain ⟨rfl, v, u, h', k', news', hn, rfl, F, N⟩ := p; exact h2 v u h' k' news' hn F N) fun K hK => h1 K fun s' p => hK _ _ p
theorem fr_shadow {h₀ h : Heap} {L : Addr} {m : Str → Option Value} {x : Str} {a b : Option Value} (F : Fr h₀ L h (fun y => if y = x then a else if y = x then b else m y)) : Fr h₀ L h (fun y => if y = x then a else m y) := fr_of _ F (funext fun y => by
  by_cases e : y = x
  · rw [if_pos e, if_pos e]
  · rw [if_neg e, if_neg e, if_neg e])
/-- where top stands -/
def TopAt (T : KtA) (laidA lrowsA : Addr) (s' : LS) (news : List (Addr × Obj)) (v : Value) (news' : List (Addr × Obj)) : Prop :=
  ∃ t, v = .int ((s'.laid.length - 1 : Nat) : Int) t ∧ LAt T laidA lrowsA s' news' ∧ ∀ p ∈ news, p.1 ≠ T.rows → p.1 ≠ laidA → p.1 ≠ lrowsA → p ∈ news'
theorem TopAt.of1 {T : KtA} {laidA lrowsA : Addr} {s : LS} {r : LRow} {news news0 news' : List (Addr × Obj)} {t : Tok} (hb : ∀ p ∈ news, p ∈ news0) (h : LAt T laidA lrowsA (s.lay r) news') (k : ∀ p ∈ news0, p.1 ≠ T.rows → p.1 ≠ laidA → p.1 ≠ lrowsA → p ∈ news') : TopAt T laidA lrowsA (s.lays [r]) news (.int ((s.laid.length : Nat) : Int) t) news' :=
  ⟨t, by rw [show s.lays [r] = s.lay r from rfl, lay_last], h, fun p hp => k p (hb p hp)⟩
theorem TopAt.of2 {T : KtA} {laidA lrowsA : Addr} {s : LS} {r r' : LRow} {news news0 news' : List (Addr × Obj)} {t : Tok} (hb : ∀ p ∈ news, p.1 ≠ T.rows → p.1 ≠ laidA → p.1 ≠ lrowsA → p ∈ news0) (h : LAt T laidA lrowsA ((s.lay r).lay r') news') (k : ∀ p ∈ news0, p.1 ≠ T.rows → p.1 ≠ laidA → p.1 ≠ lrowsA → p ∈ news') : TopAt T laidA lrowsA (s.lays [r, r']) news (.int (((s.lay r).laid.length : Nat) : Int) t) news' :=
  ⟨t, by rw [show s.lays [r, r'] = (s.lay r).lay r' from rfl, lay_last], h, fun p hp a b c => k p (hb p hp a b c) a b c⟩
end Mine
local macro_rules | `(tactic| walk_at $k:str) => do
  if ["execs cons If", "subscriptTail", "binaryOp Mod int int", "binaryOp FloorDiv int int", "binaryOp Add int int", "call builtin:len"].contains k.getString then `(tactic| refine Mine.hold_ ?_) else Lean.Macro.throwUnsupported
namespace Mine
open PySem.Spec PyProof.V PySem.Calls
set_option maxHeartbeats 16000000 in
theorem c_step {w : World} {T : KtA} {laidA lrowsA spA : Addr} {s : LS} {sp : List Nat} {n : Nat} {tn : Tok} (hl : s.R.length < 900) (hl2 : s.laid.length ≤ 900) (hl3 : s.rows.length ≤ 900) (hl4 : 4 ≤ s.laid.length)
    (hs2 : 2 ≤ sp.length) (hs3 : sp.length ≤ 100) (hsp : ∀ j ∈ sp, j < s.laid.length) (n12 : laidA ≠ lrowsA) (n1r : laidA ≠ T.rows) (n2r : lrowsA ≠ T.rows) (n3r : spA ≠ T.rows) (n31 : spA ≠ laidA) (n32 : spA ≠ lrowsA) :
    Ctl w (.ref 283) [.ref T.kt, .ref laidA, .ref lrowsA, .ref spA, .int (n : Int) tn] 20 400 (fun news => LAt T laidA lrowsA s news ∧ IntsIn spA sp news) (StepPost T laidA lrowsA spA s sp n) := by
  unfold Ctl
  k_fill
  intro dp un gd cn cs' ax ccd cl outer A₀ base h₀ L m news sh mean mg mb Q E B F X N TP hk hpre hroom hunits ret
  have hLA := hpre.1
  refine hideG ?_
  intro P k9
  obtain ⟨sv, n3, hspm, hi⟩ := hpre.2
  have hsl := ints_len hi
  obtain ⟨x, tx, hx, hxv⟩ := ints_get hi rfl (Nat.sub_lt (Nat.lt_of_lt_of_le (by decide) hs2) (by decide) : sp.length - 1 < sp.length)
  obtain ⟨y, ty, hy, hyv⟩ := ints_get hi rfl (Nat.sub_lt (Nat.lt_of_lt_of_le (by decide) hs2) (by decide) : sp.length - 2 < sp.length)
  obtain ⟨z, tz, hz, hzv⟩ := ints_get hi rfl (Nat.mod_lt (n / 8 / 977) (Nat.lt_of_lt_of_le (by decide) hs2 : sp.length > 0))
  have hxl := hsp x (List.mem_of_getElem? hx)
  have hyl := hsp y (List.mem_of_getElem? hy)
  have hzl := hsp z (List.mem_of_getElem? hz)
  have hends := ends_at (n := sv.length) (by rw [hsl]; exact hs2)
  have hxv' : sv[((-1 : Int) + (sv.length : Int)).toNat]? = some (.int (x : Int) tx) := by rw [hends.2.2.1, hsl]; exact hxv
  have hyv' : sv[((-2 : Int) + (sv.length : Int)).toNat]? = some (.int (y : Int) ty) := by rw [hends.2.2.2, hsl]; exact hyv
  have hstep : stepS s sp n = (s.lays (stepR n x y z s.laid.length), sp ++ [(s.lays (stepR n x y z s.laid.length)).laid.length - 1]) := by
    unfold stepS
    rw [getD_some hx, getD_some hy, getD_some hz]
  have hsp0 : sv.length > 0 := by rw [hsl]; exact Nat.lt_of_lt_of_le (by decide) hs2
  have hzv' : sv[n / 8 / 977 % sv.length]? = some (.int (z : Int) tz) := by rw [hsl]; exact hzv
  have hz1000 : n / 8 / 977 % sv.length < 1000 := Nat.lt_of_lt_of_le (Nat.mod_lt _ hsp0) (by rw [hsl]; exact Nat.le_trans hs3 (by decide))
  have hl' : s.R.length < 1000 := Nat.lt_trans hl (by decide)
  have hl2' : s.laid.length ≤ 1000 := Nat.le_trans hl2 (by decide)
  have hl3' : s.rows.length ≤ 1000 := Nat.le_trans hl3 (by decide)
  have hsz : sv.length ≤ 16384 := by rw [hsl]; exact Nat.le_trans hs3 (by decide)
  refine k9 ?_
  clear k9 hpre hxv hyv hx hy hz hzv
  refine wpAny_call ?_
  k_dflt ktr_enter
  with_reducible rename Fr _ _ _ _ => F1
  replace F1 := fr_of (fun y => List.lookup y [(Str.ofString "n", Value.int (n : Int) tn), (Str.ofString "spine", Value.ref spA), (Str.ofString "rows", Value.ref lrowsA), (Str.ofString "laid", Value.ref laidA), (Str.ofString "kt", Value.ref T.kt)]) F1 (by with_unfolding_all rfl)
  with_reducible rename News _ _ _ _ => N1
  with_reducible rename Below _ _ _ _ => B1
  with_reducible rename Top _ _ _ _ _ _ => T1
  with_reducible rename Frag.In _ _ => X1
  k_steps
  unfold Hold
  k_dflt (refine' m_itemNeg N1 hspm (by decide) hends.1 (by decide) hxv' ?_)
  k_steps
  unfold Hold
  with_reducible rename News _ _ _ _ => N1
  k_dflt (refine' m_itemNeg N1 hspm (by decide) hends.2.1 (by decide) hyv' ?_)
  k_steps
  unfold Hold
  k_dflt ((refine' Mine.m_modK 8 (rfl : (8 : Int) = ((8 : Nat) : Int)) (by decide) ?_); k_whole)
  k_steps
  unfold Hold
  k_dflt ((refine' Mine.m_divK 8 (rfl : (8 : Int) = ((8 : Nat) : Int)) (by decide) (by decide) ?_); k_whole)
  k_steps
  unfold Hold
  with_reducible rename Fr _ _ _ _ => F2
  with_reducible rename News _ _ _ _ => N2
  refine wpAny_execs_cons ?_
  refine midZ (Str.ofString "top") (Str.ofString "z") (TopAt T laidA lrowsA (s.lays (stepR n x y z s.laid.length)) news) F2 ?_ ?_
  · intro v3 u3 h3 k3 news3 P3 F3 N3
    refine hideG ?_
    intro P k9
    obtain ⟨t, ev, hL3, s3⟩ := P3
    subst ev
    have hsp3 := s3 _ hspm n3r n31 n32
    refine k9 ?_
    clear k9 hspm hLA
    k_steps
    unfold Hold
    k_dflt (refine' m_append F3 N3 hsp3 hsz ?_)
    intro h4 n4 F4 N4 m4 s4
    k_steps
    all_goals exact ret _ _ _ _ (by assumption) (by assumption) ⟨rfl, by rw [hstep]; exact hL3.away N3 hsp3 rfl (by decide) (by decide) n3r.symm n31.symm n32.symm s4, by rw [hstep]; exact ⟨_, _, m4, ints_snoc hi⟩, fun p hp g1 g2 g3 g4 => s4 p (s3 p hp g1 g2 g3) g4⟩
  · intro K hK
    refine wpAny_If ?_
    have h241 : 30 + n / 8 % 211 < 1000 := Nat.lt_trans (Nat.add_lt_add_left (Nat.mod_lt _ (show 211 > 0 by decide)) 30) (by decide)
    rcases step_ways n x y z s.laid.length with ⟨h8, eR⟩ | ⟨h8, eR⟩ | ⟨h8, eR⟩ | h67
    · rw [eR] at hK
      k_dflt (refine' Mine.m_isF (x₀ := Str.empty) (vs := []) (fun h => absurd rfl h) F2 ?X (topRead_of ?T) rfl (.cast ?e (gt5_no (Nat.lt_trans h8 (by decide)))) ?_; (case X => k_asm); (case T => k_asm); (case e => walk_at "m_tst"))
      intro k4
      refine wpAny_execs_cons (wpAny_If ?_)
      k_dflt (refine' Mine.m_isF (x₀ := Str.empty) (vs := []) (fun h => absurd rfl h) F2 ?X (topRead_of ?T) rfl (.cast ?e (gt3_no h8)) ?_; (case X => k_asm); (case T => k_asm); (case e => walk_at "m_tst"))
      intro k5
      k_steps
      unfold Hold
      k_dflt ((refine' Mine.m_divK 977 (rfl : (977 : Int) = ((977 : Nat) : Int)) (by decide) (by decide) ?_); k_whole)
      k_steps
      unfold Hold
      with_reducible rename News _ _ _ _ => N3
      k_dflt (refine' m_lenL N3 hspm hsz ?_)
      k_steps
      unfold Hold
      k_dflt ((refine' Mine.m_modN sv.length hsp0 ?_); k_whole)
      k_steps
      unfold Hold
      k_dflt (refine' m_itemL N3 hspm hzv' (Int.natCast_nonneg _) (n63 hz1000 rfl) ?_)
      k_steps
      unfold Hold
      k_dflt ((refine' Mine.m_modK 977 (rfl : (977 : Int) = ((977 : Nat) : Int)) (by decide) ?_); k_whole)
      k_steps
      unfold Hold
      k_dflt ((refine' Mine.m_modK 2 (rfl : (2 : Int) = ((2 : Nat) : Int)) (by decide) ?_); k_whole)
      k_steps
      unfold Hold
      k_dflt ((refine' Mine.m_addL 2 (rfl : (2 : Int) = ((2 : Nat) : Int)) ?_); k_whole)
      k_steps
      unfold Hold
      with_reducible rename Fr _ _ _ _ => F4
      with_reducible rename News _ _ _ _ => N4
      have hp4 := parts_all (P := fun j => j < s.laid.length) (m := n / 8 % 2) h8 hxl hyl hzl (Nat.lt_of_lt_of_le (Nat.add_lt_add_left (Nat.mod_lt (n / 8) (show 2 > 0 by decide)) 2) hl4)
      refine hideG ?_
      intro P k9
      obtain ⟨D9, pv, nn, hx9, hm9, hi9⟩ := four_at (x := x) (y := y) (z := z) (m := n / 8 % 2) N4 h8 (.tail _ (.tail _ (.tail _ (.tail _ (.head _))))) (.tail _ (.tail _ (.tail _ (.head _)))) (.tail _ (.tail _ (.head _))) (.tail _ (.head _))
      refine k9 ?_
      clear k9
      refine m_itemTup N4 (.head _) (vs := [.ref _, .ref _, .ref _, .ref _]) (n := 0) (k := ((n % 8 : Nat) : Int)) hx9 (Int.natCast_nonneg _) (n63 h8 rfl) ?_
      k_steps
      unfold Hold
      k_dflt (refine Ctl.uY (c_lay (s := s) (r := .meth (n / 8 % 977) (partsOf (n % 8) x y z (n / 8 % 2))) (pv := pv) (n3 := nn) ⟨Nat.lt_trans (Nat.mod_lt _ (by decide)) (by decide), hp4.2⟩ hp4.1 hl' hl2' hl3' hi9 n12 n1r n2r) B1 F4 X1 N4 T1 rfl ⟨hLA.mono fun p hp => .tail _ (.tail _ (.tail _ (.tail _ (.tail _ hp)))), hm9⟩ ?d ?u ?_; (case d => first | exact Mine.room1 hroom rfl | ktr_room); (case u => first | exact Mine.room1 hunits rfl | ktr_units))
      intro t9 h9 tk9 news9 F9 N9 hL9 s9
      k_steps
      unfold Hold KP
      exact hK _ (.mk (by assumption) (by assumption) (.of1 (fun p hp => .tail _ (.tail _ (.tail _ (.tail _ (.tail _ hp))))) hL9 s9))
    · rw [eR] at hK
      k_dflt (refine' Mine.m_isF (x₀ := Str.empty) (vs := []) (fun h => absurd rfl h) F2 ?X (topRead_of ?T) rfl (.cast ?e (gt5_no (n := n % 8) (by rw [h8]; decide))) ?_; (case X => k_asm); (case T => k_asm); (case e => walk_at "m_tst"))
      intro k4
      refine wpAny_execs_cons (wpAny_If ?_)
      k_dflt (refine' Mine.m_isT (x₀ := Str.empty) (vs := []) (fun h => absurd rfl h) F2 ?X (topRead_of ?T) rfl (.cast ?e (decide_eq_true (p := (3 : Int) < ((n % 8 : Nat) : Int)) (by rw [h8]; decide))) ?_; (case X => k_asm); (case T => k_asm); (case e => walk_at "m_tst"))
      intro k5
      k_steps
      unfold Hold
      k_dflt ((refine' Mine.m_modK 211 (rfl : (211 : Int) = ((211 : Nat) : Int)) (by decide) ?_); k_whole)
      k_steps
      unfold Hold
      k_dflt ((refine' Mine.m_addL 30 (rfl : (30 : Int) = ((30 : Nat) : Int)) ?_); k_whole)
      k_steps
      unfold Hold
      with_reducible rename Fr _ _ _ _ => F3
      with_reducible rename News _ _ _ _ => N3
      k_dflt (refine Ctl.uY (c_lay (s := s) (r := .typ (30 + n / 8 % 211) [x]) (n3 := 0) ⟨h241, Nat.le_of_ble_eq_true rfl⟩ (all1 (P := fun j => j < s.laid.length) hxl) hl' hl2' hl3' (.cons _ _ .nil) n12 n1r n2r) B1 F3 X1 N3 T1 rfl ⟨hLA.mono fun p hp => .tail _ hp, .head _⟩ ?d ?u ?_; (case d => first | exact Mine.room1 hroom rfl | ktr_room); (case u => first | exact Mine.room1 hunits rfl | ktr_units))
      intro t9 h9 tk9 news9 F9 N9 hL9 s9
      k_steps
      unfold Hold KP
      exact hK _ (.no (by assumption) (by assumption) (.of1 (fun p hp => .tail _ hp) hL9 s9))
    · rw [eR] at hK
      k_dflt (refine' Mine.m_isF (x₀ := Str.empty) (vs := []) (fun h => absurd rfl h) F2 ?X (topRead_of ?T) rfl (.cast ?e (gt5_no (n := n % 8) (by rw [h8]; decide))) ?_; (case X => k_asm); (case T => k_asm); (case e => walk_at "m_tst"))
      intro k4
      refine wpAny_execs_cons (wpAny_If ?_)
      k_dflt (refine' Mine.m_isT (x₀ := Str.empty) (vs := []) (fun h => absurd rfl h) F2 ?X (topRead_of ?T) rfl (.cast ?e (decide_eq_true (p := (3 : Int) < ((n % 8 : Nat) : Int)) (by rw [h8]; decide))) ?_; (case X => k_asm); (case T => k_asm); (case e => walk_at "m_tst"))
      intro k5
      k_steps
      unfold Hold
      k_dflt ((refine' Mine.m_modK 211 (rfl : (211 : Int) = ((211 : Nat) : Int)) (by decide) ?_); k_whole)
      k_steps
      unfold Hold
      k_dflt ((refine' Mine.m_addL 30 (rfl : (30 : Int) = ((30 : Nat) : Int)) ?_); k_whole)
      k_steps
      unfold Hold
      with_reducible rename Fr _ _ _ _ => F3
      with_reducible rename News _ _ _ _ => N3
      k_dflt (refine Ctl.uY (c_lay (s := s) (r := .typ (30 + n / 8 % 211) [y, x]) (n3 := 0) ⟨h241, Nat.le_of_ble_eq_true rfl⟩ (all2 (P := fun j => j < s.laid.length) hyl hxl) hl' hl2' hl3' (.cons _ _ (.cons _ _ .nil)) n12 n1r n2r) B1 F3 X1 N3 T1 rfl ⟨hLA.mono fun p hp => .tail _ hp, .head _⟩ ?d ?u ?_; (case d => first | exact Mine.room1 hroom rfl | ktr_room); (case u => first | exact Mine.room1 hunits rfl | ktr_units))
      intro t9 h9 tk9 news9 F9 N9 hL9 s9
      k_steps
      unfold Hold KP
      exact hK _ (.no (by assumption) (by assumption) (.of1 (fun p hp => .tail _ hp) hL9 s9))
    · have h5 : (5 : Int) < ((n % 8 : Nat) : Int) := by rcases h67 with h | h <;> (rw [h.1]; decide)
      k_dflt (refine' Mine.m_isT (x₀ := Str.empty) (vs := []) (fun h => absurd rfl h) F2 ?X (topRead_of ?T) rfl (.cast ?e (decide_eq_true (p := (5 : Int) < ((n % 8 : Nat) : Int)) h5)) ?_; (case X => k_asm); (case T => k_asm); (case e => walk_at "m_tst"))
      intro k4
      k_steps
      unfold Hold
      k_dflt ((refine' Mine.m_modK 5 (rfl : (5 : Int) = ((5 : Nat) : Int)) (by decide) ?_); k_whole)
      k_steps
      unfold Hold
      with_reducible rename Fr _ _ _ _ => F3
      with_reducible rename News _ _ _ _ => N3
      k_dflt (refine Ctl.uY (c_lay (s := s) (r := .round (n / 8 % 5) x) (n3 := 0) (Nat.mod_lt _ (by decide)) (all1 (P := fun j => j < s.laid.length) hxl) hl' hl2' hl3' (.cons _ _ .nil) n12 n1r n2r) B1 F3 X1 N3 T1 rfl ⟨hLA.mono fun p hp => .tail _ hp, .head _⟩ ?d ?u ?_; (case d => first | exact Mine.room1 hroom rfl | ktr_room); (case u => first | exact Mine.room1 hunits rfl | ktr_units))
      intro t9 h9 tk9 news9 F9 N9 hL9 s9
      k_steps
      unfold Hold
      with_reducible rename Fr _ _ _ _ => F4
      refine wpAny_execs_cons (wpAny_If ?_)
      rcases h67 with ⟨h8, eR⟩ | ⟨h8, eR⟩
      · rw [eR] at hK
        k_dflt (refine' Mine.m_isF (x₀ := Str.empty) (vs := []) (fun h => absurd rfl h) F4 ?X (topRead_of ?T) rfl (.cast ?e (show (((n % 8 : Nat) : Int) == 7) = false by rw [h8]; rfl)) ?_; (case X => k_asm); (case T => k_asm); (case e => walk_at "m_tst"))
        intro k5
        k_steps
        unfold Hold KP
        exact hK _ (.no (by assumption) (by assumption) (.of1 (fun p hp => .tail _ hp) hL9 s9))
      · rw [eR] at hK
        k_dflt (refine' Mine.m_isT (x₀ := Str.empty) (vs := []) (fun h => absurd rfl h) F4 ?X (topRead_of ?T) rfl (.cast ?e (show (((n % 8 : Nat) : Int) == 7) = true by rw [h8]; rfl)) ?_; (case X => k_asm); (case T => k_asm); (case e => walk_at "m_tst"))
        intro k5
        k_steps
        unfold Hold
        k_dflt ((refine' Mine.m_divK 5 (rfl : (5 : Int) = ((5 : Nat) : Int)) (by decide) (by decide) ?_); k_whole)
        k_steps
        unfold Hold
        k_dflt ((refine' Mine.m_modK 5 (rfl : (5 : Int) = ((5 : Nat) : Int)) (by decide) ?_); k_whole)
        k_steps
        unfold Hold
        with_reducible rename Fr _ _ _ _ => F5
        with_reducible rename News _ _ _ _ => N5
        k_dflt (refine Ctl.uY (c_lay (s := s.lay (.round (n / 8 % 5) x)) (r := .round (n / 8 / 5 % 5) s.laid.length) (n3 := 0) (Nat.mod_lt _ (by decide)) (all1 (P := fun j => j < (s.lay (.round (n / 8 % 5) x)).laid.length) (by show _ < (s.laid ++ [_]).length; rw [len_snoc]; exact Nat.lt_succ_self _)) (by show (s.R ++ [_]).length < _; rw [len_snoc]; exact Nat.lt_of_le_of_lt hl (by decide)) (by show (s.laid ++ [_]).length ≤ _; rw [len_snoc]; exact Nat.le_trans (Nat.succ_le_succ hl2) (by decide)) (by show (s.rows ++ [_]).length ≤ _; rw [len_snoc]; exact Nat.le_trans (Nat.succ_le_succ hl3) (by decide)) (.cons _ _ .nil) n12 n1r n2r) B1 F5 X1 N5 T1 rfl ⟨hL9.mono fun p hp => .tail _ hp, .head _⟩ ?d ?u ?_; (case d => first | exact Mine.room1 hroom rfl | ktr_room); (case u => first | exact Mine.room1 hunits rfl | ktr_units))
        intro t10 h10 tk10 news10 F10 N10 hL10 s10
        k_steps
        unfold Hold KP
        exact hK _ (.no (fr_shadow (by assumption)) (by assumption) (.of2 (fun p hp a b c => .tail _ (s9 p (.tail _ hp) a b c)) hL10 s10))
end Mine

end
theorem Mine.top_offNF4 : True := by w_top off; trivial
theorem Mine.turnNF4 {M : Model} {A : Around} {env : Env} {Q : Flow → Shared → Prop} {E : Value → Shared → Prop} {s : Shared} (h : Q .next s) : wpAny M A (execs [] env) Q E s := by walk1; exact h
section
-- G1_lawdefs
namespace Mine
open PySem.Spec PyProof.V PySem.Calls
theorem Shows.ext {R R' : List TRow} {nm : Nat → Option Str} (hx : Ext R R') {k l c d : Nat} {t : Str} (S : Shows R nm k l t c d) : Shows R' nm k l t c d :=
  Shows.rec (rows := R) (nm := nm) (motive_1 := fun k l t c d _ => Shows R' nm k l t c d) (motive_2 := fun as l t c d _ => ShowsA R' nm as l t c d) (motive_3 := fun as l ts c d _ => ShowsL R' nm as l ts c d)
    (@fun _ _ _ _ _ _ _ h hs _ ih => .around (hx _ _ h) hs ih) (@fun _ _ _ _ _ h h' => .prim (hx _ _ h) h') (@fun _ _ _ _ _ h h' => .var (hx _ _ h) h') (@fun _ _ _ _ _ h h' => .mvar (hx _ _ h) h')
    (@fun _ _ _ _ _ _ _ _ h hs h' _ ih => .named (hx _ _ h) hs h' ih) (@fun _ _ _ _ _ _ _ _ _ _ h h' _ _ ih ih' => .ftn (hx _ _ h) h' ih ih')
    .nil (@fun _ _ _ _ _ hl => .dots hl) (@fun _ _ _ _ _ _ hl _ ih => .some hl ih) .nil (@fun _ _ _ _ _ _ _ _ _ _ ih ih' => .cons ih ih') S
theorem Ext.trans {R R' R'' : List TRow} (h : Ext R R') (h' : Ext R' R'') : Ext R R'' := fun k r e => h' k r (h k r e)
theorem str_ext {a b : Str} (h : a.cps = b.cps) : a = b := by cases a; cases b; simp_all
theorem app_nil (t : Str) : t ++ Str.ofString "" = t := by
  apply str_ext
  show t.cps ++ (Str.ofString "").cps = t.cps
  have : (Str.ofString "").cps = #[] := by decide +kernel
  rw [this]; simp
theorem nil_app (t : Str) : Str.ofString "" ++ t = t := by
  apply str_ext
  show (Str.ofString "").cps ++ t.cps = t.cps
  have : (Str.ofString "").cps = #[] := by decide +kernel
  rw [this]; simp
theorem app_assoc (a b c : Str) : (a ++ b) ++ c = a ++ (b ++ c) := by
  apply str_ext
  show (a.cps ++ b.cps) ++ c.cps = a.cps ++ (b.cps ++ c.cps)
  rw [Array.append_assoc]
theorem join_one (sep a : Str) : Txt.join sep [a] = a := by
  have h : Txt.join sep [a] = Str.join sep [a] := by
    show Builtin.Str.glued sep [a] = _
    rw [StrLaws.glued_eq_join]
  rw [h]
  first | rfl | (simp [Str.join])
theorem join_two (sep a b : Str) : Txt.join sep [a, b] = (a ++ sep) ++ b := by
  have h : Txt.join sep [a, b] = Str.join sep [a, b] := by
    show Builtin.Str.glued sep [a, b] = _
    rw [StrLaws.glued_eq_join]
  rw [h]
  first | rfl | (simp [Str.join, app_assoc])

/-- a base of the lawful kinds: it may stand within a row, and is told so at the two highest levels -/
def BaseT (R : List TRow) (nm : Nat → Option Str) (k : Nat) (t : Str) : Prop := (∃ r, R[k]? = some r ∧ Base k r) ∧ t.length ≤ 100 ∧ ∀ l, l ≤ 1 → Shows R nm k l t 4 3
theorem BaseT.ext {R R' : List TRow} {nm : Nat → Option Str} {k : Nat} {t : Str} (hx : Ext R R') (h : BaseT R nm k t) : BaseT R' nm k t :=
  ⟨let ⟨r, e, b⟩ := h.1; ⟨r, hx _ _ e, b⟩, h.2.1, fun l hl => Shows.ext hx (h.2.2 l hl)⟩
section
variable {R : List TRow} {nm : Nat → Option Str} {k : Nat}
theorem base_var {a : Nat} (h16 : 16 ≤ k) (h : R[k]? = some (.two 6 a)) (ha : a < 1000) : BaseT R nm k (Str.ofString "!" ++ numText a) :=
  ⟨⟨_, h, .inr ⟨h16, .inl rfl⟩⟩, by have := numText_len ha; have := l_bang; rw [len_app]; omega, fun _ _ => .var h ha⟩
theorem base_mvar {a : Nat} (h16 : 16 ≤ k) (h : R[k]? = some (.two 7 a)) (ha : a < 1000) : BaseT R nm k (Str.ofString "!!" ++ numText a) :=
  ⟨⟨_, h, .inr ⟨h16, .inr rfl⟩⟩, by have := numText_len ha; have := l_bang2; rw [len_app]; omega, fun _ _ => .mvar h ha⟩
theorem base_prim {n : Nat} (h : R[n]? = some (.two 1 n)) (h1 : 1 ≤ n) (h2 : n ≤ 11) : BaseT R nm n (primWord n) :=
  ⟨⟨_, h, .inl ⟨rfl, h1, h2⟩⟩, by have := primWord_len (show n < 16 by omega); omega, fun _ _ => .prim h (by omega)⟩
theorem base_val {t : Nat} (hn : ∀ n t, nm n = some t → t.length ≤ 10) (h16 : 16 ≤ k) (h : R[k]? = some (.three 3 t [])) (ht : t < 1000) : BaseT R nm k (nameText nm t) :=
  ⟨⟨_, h, h16, rfl⟩, by have := nameText_len hn ht; omega, fun l _ => by
    have := Shows.named (nm := nm) (l := l) (c := 3) (d := 2) h (.inr rfl) ht (.nil (rows := R))
    rwa [app_nil] at this⟩
theorem base_val1 {t first a : Nat} (hn : ∀ n t, nm n = some t → t.length ≤ 10) (h16 : 16 ≤ k) (h : R[k]? = some (.three 3 t [first])) (hf : R[first]? = some (.two 6 a)) (ht : t < 1000) (ha : a < 1000) :
    BaseT R nm k (((nameText nm t ++ Str.ofString "<") ++ (Str.ofString "!" ++ numText a)) ++ Str.ofString ">") :=
  ⟨⟨_, h, h16, rfl⟩, by have := nameText_len hn ht; have := numText_len ha; have := l_bang; have := l_lt; have := l_gt; simp only [len_app]; omega, fun l hl => by
    have h1 : ShowsL R nm [first] (l + 1) [Str.ofString "!" ++ numText a] (1 + 0) 2 := .cons (.var (c := 0) hf ha) .nil
    have h2 := Shows.named (nm := nm) (l := l) (c := 1 + 0) (d := 2) h (.inr rfl) ht (.some (by omega) h1)
    rw [join_one] at h2
    have e : nameText nm t ++ ((Str.ofString "<" ++ (Str.ofString "!" ++ numText a)) ++ Str.ofString ">") = ((nameText nm t ++ Str.ofString "<") ++ (Str.ofString "!" ++ numText a)) ++ Str.ofString ">" := by simp only [app_assoc]
    rw [e] at h2
    exact h2.up (by omega) (by omega)⟩

/-- kind k is told t -/
def Told (R : List TRow) (nm : Nat → Option Str) (k : Nat) (t : Str) : Prop := t.length ≤ 400 ∧ Shows R nm k 0 t 20 6
theorem Told.ext {R' : List TRow} {t : Str} (hx : Ext R R') (h : Told R nm k t) : Told R' nm k t := ⟨h.1, Shows.ext hx h.2⟩
theorem l_boxed : (Str.ofString "boxed ").length = 6 := by decide +kernel
theorem l_ro : (Str.ofString "readonly ").length = 9 := by decide +kernel
theorem l_raw : (Str.ofString "raw ").length = 4 := by decide +kernel
theorem l_amp : (Str.ofString "&").length = 1 := by decide +kernel
variable {x : Nat} {t : Str}
theorem told_box (h : R[k]? = some (.two 8 x)) (b : BaseT R nm x t) : Told R nm k (Str.ofString "boxed " ++ t) := by
  refine ⟨by have := l_boxed; have := b.2.1; rw [len_app]; omega, ?_⟩
  have h1 := Shows.around h (.inr (.inr (.inl rfl))) (b.2.2 0 (by omega))
  have e : (arPre 8 ++ t) ++ arPost 8 = Str.ofString "boxed " ++ t := app_nil _
  rw [e] at h1
  exact h1.up (by omega) (by omega)
theorem told_ro (h : R[k]? = some (.two 9 x)) (b : BaseT R nm x t) : Told R nm k ((Str.ofString "readonly " ++ t) ++ Str.ofString "&") := by
  refine ⟨by have := l_ro; have := l_amp; have := b.2.1; simp only [len_app]; omega, ?_⟩
  have h1 := Shows.around h (.inr (.inr (.inr (.inl rfl)))) (b.2.2 0 (by omega))
  exact h1.up (by omega) (by omega)
theorem told_raw (h : R[k]? = some (.two 11 x)) (b : BaseT R nm x t) : Told R nm k (Str.ofString "raw " ++ t) := by
  refine ⟨by have := l_raw; have := b.2.1; rw [len_app]; omega, ?_⟩
  have h1 := Shows.around h (.inr (.inr (.inr (.inr rfl)))) (b.2.2 0 (by omega))
  have e : (arPre 11 ++ t) ++ arPost 11 = Str.ofString "raw " ++ t := app_nil _
  rw [e] at h1
  exact h1.up (by omega) (by omega)
theorem told_by (h : R[k]? = some (.two 5 x)) (b : BaseT R nm x t) : Told R nm k (t ++ Str.ofString "&") := by
  refine ⟨by have := l_amp; have := b.2.1; rw [len_app]; omega, ?_⟩
  have h1 := Shows.around h (.inr (.inl rfl)) (b.2.2 0 (by omega))
  have e : (arPre 5 ++ t) ++ arPost 5 = t ++ Str.ofString "&" := by
    show (Str.ofString "" ++ t) ++ Str.ofString "&" = _
    rw [nil_app]
  rw [e] at h1
  exact h1.up (by omega) (by omega)
theorem told_ftn {mm first : Nat} {p : Str} (h : R[k]? = some (.four x mm [first, x])) (hm : mm < 1000) (b : BaseT R nm x t) (f : BaseT R nm first p) :
    Told R nm k ((((((((Str.ofString "method " ++ t) ++ Str.ofString "::") ++ numText mm) ++ Str.ofString "<") ++ p) ++ Str.ofString ", ") ++ t) ++ Str.ofString ">") := by
  refine ⟨by have := l_meth; have := l_col; have := l_lt; have := l_gt; have := l_comma; have := numText_len hm; have := b.2.1; have := f.2.1; simp only [len_app]; omega, ?_⟩
  have h1 : ShowsL R nm [first, x] 1 [p, t] (4 + (4 + 0)) 3 := .cons (f.2.2 1 (by omega)) (.cons (b.2.2 1 (by omega)) .nil)
  have h2 := Shows.ftn (l := 0) h hm (b.2.2 1 (by omega)) (.some (by omega) h1)
  rw [join_two] at h2
  have e : (((Str.ofString "method " ++ t) ++ Str.ofString "::") ++ numText mm ++ ((Str.ofString "<" ++ ((p ++ Str.ofString ", ") ++ t)) ++ Str.ofString ">")) = (((((((Str.ofString "method " ++ t) ++ Str.ofString "::") ++ numText mm) ++ Str.ofString "<") ++ p) ++ Str.ofString ", ") ++ t) ++ Str.ofString ">" := by simp only [app_assoc]
  rw [e] at h2
  exact h2.up (by omega) (by omega)
end

theorem KTOkN.offOf {w : World} {n16 : Nat} {T : KtA} {R : List TRow} {D : Addr} {news : List (Addr × Obj)} (hk : KTOkN n16 w T R news) (h : ∀ o : Obj, o.cls = .type "list" ∨ o.cls = .type "dict" → ∀ a, (a, o) ∈ news → D ≠ a) : T.Off D :=
  ⟨hk.rows.rec fun _ _ q _ _ => h _ (.inl rfl) _ q, hk.idx.rec fun _ q _ _ => q.mem.elim fun o q => h o (.inr q.2) _ q.1, hk.dep.rec fun _ _ _ q _ _ _ => h _ (.inl rfl) _ q, hk.wei.rec fun _ _ _ q _ _ _ => h _ (.inl rfl) _ q, hk.opn.rec fun _ _ _ q _ _ => h _ (.inl rfl) _ q⟩
theorem ktok_tupOff {w : World} {T : KtA} {R : List TRow} {h₀ h : Heap} {L a : Addr} {news : List (Addr × Obj)} {vs : List Value} {n : Nat} (N : News h₀ L h news) (hk : KTOk w T R news) (ha : (a, tupOf vs n) ∈ news) : T.Off a :=
  hk.offOf fun _ hc _ q => obj_ne N ha q (by rcases hc with hc | hc <;> (rw [hc]; exact cls_ne (by decide)))
theorem ktok_newOff {w : World} {T : KtA} {R : List TRow} {D : Addr} {news : List (Addr × Obj)} (hk : KTOk w T R news) (hl : ∀ p ∈ news, p.1 < D) : T.Off D := hk.offOf fun _ _ _ q => Nat.ne_of_gt (hl _ q)
theorem ktok_neOff {w : World} {T : KtA} {R : List TRow} {D : Addr} {news : List (Addr × Obj)} (hk : KTOk w T R news) (hl : ∀ p ∈ news, p.1 ≠ D) : T.Off D := hk.offOf fun _ _ _ q => (hl _ q).symm
theorem ktok_16 {w : World} {T : KtA} {R : List TRow} {news : List (Addr × Obj)} {k : Nat} {r : TRow} (hk : KTOk w T R news) (h : R[k]? = some r) (hr : ∀ x, r ≠ .two 1 x) : 16 ≤ k :=
  Nat.le_of_not_lt fun e => hr k (Option.some.inj (h.symm.trans (hk.prim k e)))
theorem names_keep {w : World} {a : Addr} {nm : Nat → Option Str} {news news' : List (Addr × Obj)} (h : NamesAt w news a nm) (hs : ∀ o, (a, o) ∈ news → (a, o) ∈ news') : NamesAt w news' a nm :=
  let ⟨lo, o, kvs, D, hm, r⟩ := h; ⟨lo, o, kvs, D, hs _ hm, r⟩

theorem base_prim' {R : List TRow} {nm : Nat → Option Str} {n : Nat} (h : R[n]? = some (.two 1 n)) (h1 : 1 ≤ n) (h2 : n ≤ 11) :
    BaseT R nm n (([Str.ofString "void", Str.ofString "bool", Str.ofString "char", Str.ofString "sbyte", Str.ofString "byte", Str.ofString "short", Str.ofString "ushort", Str.ofString "int", Str.ofString "uint", Str.ofString "long", Str.ofString "ulong", Str.ofString "native int", Str.ofString "object", Str.ofString "string", Str.ofString "null", Str.ofString "?"] : List Str).getD ((n : Nat) : Int).toNat Str.empty) := by
  have all : ∀ k < 16, (([Str.ofString "void", Str.ofString "bool", Str.ofString "char", Str.ofString "sbyte", Str.ofString "byte", Str.ofString "short", Str.ofString "ushort", Str.ofString "int", Str.ofString "uint", Str.ofString "long", Str.ofString "ulong", Str.ofString "native int", Str.ofString "object", Str.ofString "string", Str.ofString "null", Str.ofString "?"] : List Str).getD k Str.empty) = primWord k := by decide +kernel
  rw [Int.toNat_natCast, all n (by omega)]
  exact base_prim h h1 h2
/-- a pair of a kind and its words -/
inductive PairAt (P : Nat → Str → Prop) (news : List (Addr × Obj)) (v : Value) : Prop
  | mk (p : Addr) (k : Nat) (t : Str) (tk tt : Tok) (m : Nat) (e : v = .ref p) (h : (p, tupOf [.int (k : Int) tk, .str t tt] m) ∈ news) (hp : P k t) : PairAt P news v
theorem PairAt.ext {P P' : Nat → Str → Prop} {news news' : List (Addr × Obj)} {v : Value} (hP : ∀ k t, P k t → P' k t) (ht : TupSub news news') (h : PairAt P news v) : PairAt P' news' v := h.rec fun p k t tk tt m e h hp => ⟨p, k, t, tk, tt, m, e, ht _ _ _ h, hP _ _ hp⟩
/-- a tuple of pairs of a base and its words -/
inductive BasesAt (R : List TRow) (nm : Nat → Option Str) (news : List (Addr × Obj)) (bA : Addr) : Prop
  | mk (ps : List Value) (m : Nat) (h : (bA, tupOf ps m) ∈ news) (len : ps.length = 5) (all : ∀ (j : Nat) (v : Value), ps[j]? = some v → PairAt (BaseT R nm) news v) : BasesAt R nm news bA
theorem BasesAt.ext {R R' : List TRow} {nm : Nat → Option Str} {news news' : List (Addr × Obj)} {bA : Addr} (hx : Ext R R') (ht : TupSub news news') (h : BasesAt R nm news bA) : BasesAt R' nm news' bA :=
  h.rec fun ps m h len all => ⟨ps, m, ht _ _ _ h, len, fun j v e => (all j v e).ext (fun _ _ q => q.ext hx) ht⟩
def OutOk (R : List TRow) (nm : Nat → Option Str) (news : List (Addr × Obj)) (ov : List Value) : Prop :=
  ∀ (j : Nat) (v : Value), ov[j]? = some v → PairAt (Told R nm) news v
theorem OutOk.ext {R R' : List TRow} {nm : Nat → Option Str} {news news' : List (Addr × Obj)} {ov : List Value} (hx : Ext R R') (ht : TupSub news news') (h : OutOk R nm news ov) : OutOk R' nm news' ov := fun j v e => (h j v e).ext (fun _ _ q => q.ext hx) ht
theorem OutOk.snoc {R : List TRow} {nm : Nat → Option Str} {news news' : List (Addr × Obj)} {ov : List Value} {p : Addr} {k : Nat} {t : Str} {tk tt : Tok} {m' : Nat} (h : OutOk R nm news ov) (ht : TupSub news news') (hm : (p, tupOf [.int (k : Int) tk, .str t tt] m') ∈ news') (hT : Told R nm k t) : OutOk R nm news' (ov ++ [.ref p]) := by
  intro j v e
  rcases get_snoc e with h1 | ⟨_, h1⟩
  · exact h.ext (fun _ _ q => q) ht j v h1
  · exact ⟨p, k, t, tk, tt, m', h1, hm, hT⟩
def SmallR (R : List TRow) : Prop := ∀ (k : Nat) (r : TRow), R[k]? = some r → Small r
theorem SmallR.put {R R' : List TRow} {row : TRow} (h : SmallR R) (ho : Only R R' row) (hr : Small row) : SmallR R' := fun k r e => by
  rcases ho k r e with h1 | h1
  · exact h k r h1
  · rw [h1]; exact hr
theorem small_new {w : World} {T : KtA} {R : List TRow} {news : List (Addr × Obj)} (hk : KTOk w T R news) (hl : R.length = 16) : SmallR R := fun k r e =>
  Option.some.inj ((hk.prim k (hl ▸ (List.getElem?_eq_some_iff.mp e).1)).symm.trans e) ▸ trivial
/-- while the bases are made -/
structure MkSt (w : World) (T : KtA) (nm : Nat → Option Str) (namesA : Addr) (first a : Nat) (base : List (Addr × Obj)) (R : List TRow) (qs : List Value) (n : Nat) (news : List (Addr × Obj)) : Prop where
  tab : KTOk w T R news
  names : NamesAt w news namesA nm
  keep : ∀ p ∈ base, p ∈ news
  small : SmallR R
  len : R.length ≤ n
  row : R[first]? = some (.two 6 a)
  pairs : ∀ v ∈ qs, PairAt (BaseT R nm) news v
section
variable {w : World} {T : KtA} {nm : Nat → Option Str} {namesA : Addr} {first a : Nat} {base : List (Addr × Obj)} {R R' : List TRow} {qs : List Value} {n : Nat} {news news' : List (Addr × Obj)} {h₀ h : Heap} {L : Addr}
theorem MkSt.mono (S : MkSt w T nm namesA first a base R qs n news) (hs : ∀ p ∈ news, p ∈ news') : MkSt w T nm namesA first a base R qs n news' :=
  ⟨S.tab.mono hs, S.names.mono hs, fun p hp => hs _ (S.keep p hp), S.small, S.len, S.row, fun v hv => (S.pairs v hv).ext (fun _ _ h => h) fun _ _ _ => hs _⟩
theorem MkSt.monoN (S : MkSt w T nm namesA first a base R qs n news) (_ : News h₀ L h news') (hs : ∀ p ∈ news, p ∈ news') : MkSt w T nm namesA first a base R qs n news' := S.mono hs
theorem MkSt.put (S : MkSt w T nm namesA first a base R qs n news) (N : News h₀ L h news) (oN : T.Off namesA) (oB : ∀ p ∈ base, T.Off p.1) {row : TRow} {k : Nat} (hP : PutOk w T R row news k R' news') (hsm : Small row) : MkSt w T nm namesA first a base R' qs (n + 1) news' :=
  ⟨hP.ok, names_keep S.names fun o q => hP.keep _ q oN, fun p hp => hP.keep _ (S.keep p hp) (oB p hp), S.small.put hP.only hsm, Nat.le_trans hP.len (Nat.succ_le_succ S.len), hP.ext _ _ S.row, fun v hv => (S.pairs v hv).ext (fun _ _ h => h.ext hP.ext) fun a vs n q => hP.keep _ q (ktok_tupOff N S.tab q)⟩
theorem MkSt.add {p : Addr} {k : Nat} {t : Str} {tk tt : Tok} {m : Nat} (S : MkSt w T nm namesA first a base R qs n news) (hm : (p, tupOf [.int (k : Int) tk, .str t tt] m) ∈ news) (hb : BaseT R nm k t) : MkSt w T nm namesA first a base R (qs ++ [.ref p]) n news :=
  ⟨S.tab, S.names, S.keep, S.small, S.len, S.row, fun v hv => (List.mem_append.mp hv).elim (S.pairs v) fun h => ⟨p, k, t, tk, tt, m, List.mem_singleton.mp h, hm, hb⟩⟩
end
structure LawSt (w : World) (T : KtA) (nm : Nat → Option Str) (namesA bA outA : Addr) (first : Nat) (place : Str) (base : List (Addr × Obj)) (R : List TRow) (ov : List Value) (mo : Nat) (news : List (Addr × Obj)) : Prop where
  tab : KTOk w T R news
  names : NamesAt w news namesA nm
  bases : BasesAt R nm news bA
  fst : BaseT R nm first place
  out : (outA, W.listOf ov.toArray mo) ∈ news
  ok : OutOk R nm news ov
  keep : ∀ p ∈ base, p ∈ news
  small : SmallR R
section
variable {w : World} {T : KtA} {nm : Nat → Option Str} {namesA bA outA : Addr} {first : Nat} {place : Str} {base : List (Addr × Obj)} {R R' : List TRow} {ov : List Value} {mo : Nat} {news news' : List (Addr × Obj)} {h₀ h : Heap} {L : Addr}
theorem LawSt.mono (S : LawSt w T nm namesA bA outA first place base R ov mo news) (hs : ∀ p ∈ news, p ∈ news') : LawSt w T nm namesA bA outA first place base R ov mo news' :=
  ⟨S.tab.mono hs, S.names.mono hs, S.bases.ext (fun _ _ h => h) (fun _ _ _ q => hs _ q), S.fst, hs _ S.out, S.ok.ext (fun _ _ h => h) (fun _ _ _ q => hs _ q), fun p hp => hs _ (S.keep p hp), S.small⟩
theorem LawSt.monoN (S : LawSt w T nm namesA bA outA first place base R ov mo news) (_ : News h₀ L h news') (hs : ∀ p ∈ news, p ∈ news') : LawSt w T nm namesA bA outA first place base R ov mo news' := S.mono hs
theorem LawSt.put (S : LawSt w T nm namesA bA outA first place base R ov mo news) (N : News h₀ L h news) (oN : T.Off namesA) (oO : T.Off outA) (oB : ∀ p ∈ base, T.Off p.1) {row : TRow} {k : Nat} (hP : PutOk w T R row news k R' news') (hsm : Small row) : LawSt w T nm namesA bA outA first place base R' ov mo news' :=
  have ht : TupSub news news' := fun a vs n q => hP.keep _ q (ktok_tupOff N S.tab q)
  ⟨hP.ok, names_keep S.names fun o q => hP.keep _ q oN, S.bases.ext hP.ext ht, S.fst.ext hP.ext, hP.keep _ S.out oO, S.ok.ext hP.ext ht, fun p hp => hP.keep _ (S.keep p hp) (oB p hp), S.small.put hP.only hsm⟩
theorem LawSt.app {p : Addr} {k : Nat} {t : Str} {tk tt : Tok} {m m' : Nat} (S : LawSt w T nm namesA bA outA first place base R ov mo news) (N : News h₀ L h news) (oO : T.Off outA) (oN : namesA ≠ outA) (oB : ∀ p ∈ base, p.1 ≠ outA) (hm : (p, tupOf [.int (k : Int) tk, .str t tt] m') ∈ news) (hT : Told R nm k t)
    (ho : (outA, W.listOf (ov ++ [Value.ref p]).toArray m) ∈ news') (hs : ∀ p ∈ news, p.1 ≠ outA → p ∈ news') : LawSt w T nm namesA bA outA first place base R (ov ++ [.ref p]) m news' :=
  have ht := tup_sub N S.out rfl (by decide) hs
  ⟨S.tab.away N S.out rfl (by decide) (by decide) oO hs, names_keep S.names fun o q => hs _ q oN, S.bases.ext (fun _ _ h => h) ht, S.fst, ho, S.ok.snoc ht (ht _ _ _ hm) hT, fun p hp => hs _ (S.keep p hp) (oB p hp), S.small⟩
theorem LawSt.drop {I : Addr} {it : Obj} {c : String} (S : LawSt w T nm namesA bA outA first place ((I, it) :: base) R ov mo news) (N : News h₀ L h news) (hc : it.cls = .type c) (c1 : c ≠ "tuple") (c2 : c ≠ "dict") (oI : T.Off I) (n1 : namesA ≠ I) (n2 : outA ≠ I) (oB : ∀ p ∈ base, p.1 ≠ I) : LawSt w T nm namesA bA outA first place base R ov mo (offI I news) :=
  have hI := S.keep _ (.head _)
  have hs : ∀ p ∈ news, p.1 ≠ I → p ∈ offI I news := fun p hp hn => mem_offI.mpr ⟨hp, hn⟩
  have ht := tup_sub N hI hc c1 hs
  ⟨S.tab.away N hI hc c2 c1 oI hs, names_keep S.names fun o q => hs _ q n1, S.bases.ext (fun _ _ h => h) ht, S.fst, hs _ S.out n2, S.ok.ext (fun _ _ h => h) ht, fun p hp => hs _ (S.keep p (.tail _ hp)) (oB p hp), S.small⟩
theorem MkSt.law {a : Nat} {D : Addr} {qs : List Value} {n m m' : Nat} (S : MkSt w T nm namesA first a base R qs n news) (hq : qs.length = 5) (hD : (D, tupOf qs m) ∈ news) (hf : BaseT R nm first place) (ho : (outA, W.listOf #[] m') ∈ news) : LawSt w T nm namesA D outA first place base R [] m' news :=
  ⟨S.tab, S.names, ⟨qs, m, hD, hq, fun j v e => S.pairs v (List.mem_of_getElem? e)⟩, hf, ho, fun j v e => (nomatch e), S.keep, S.small⟩
theorem LawSt.outNe {I : Addr} (S : LawSt w T nm namesA bA outA first place base R ov mo news) (hoff : ∀ p ∈ news, p.1 ≠ I) : outA ≠ I := hoff _ S.out
theorem LawSt.namesNe {I : Addr} (S : LawSt w T nm namesA bA outA first place base R ov mo news) (hoff : ∀ p ∈ news, p.1 ≠ I) : namesA ≠ I := by
  obtain ⟨_, _, _, _, hm, _⟩ := S.names
  exact hoff _ hm
theorem LawSt.push {q : Addr × Obj} (S : LawSt w T nm namesA bA outA first place base R ov mo news) : LawSt w T nm namesA bA outA first place (q :: base) R ov mo (q :: news) :=
  ⟨S.tab.mono fun p hp => .tail _ hp, S.names.mono fun p hp => .tail _ hp, S.bases.ext (fun _ _ h => h) (fun _ _ _ q => .tail _ q), S.fst, (.tail _ S.out), S.ok.ext (fun _ _ h => h) (fun _ _ _ q => .tail _ q), fun p hp => by
      rcases List.mem_cons.mp hp with e | hp
      · rw [e]; exact .head _
      · exact .tail _ (S.keep p hp), S.small⟩
theorem ov_len {a : Addr} {ov : List Value} {v : Value} {m n : Nat} {news : List (Addr × Obj)} (_h : (a, W.listOf (ov ++ [v]).toArray m) ∈ news) (hl : ov.length ≤ n) : (ov ++ [v]).length ≤ n + 1 := by rw [len_snoc]; exact Nat.succ_le_succ hl
theorem cons_ne {I x : Addr} {it : Obj} {base : List (Addr × Obj)} (h : I ≠ x) (hb : ∀ p ∈ base, p.1 ≠ x) : ∀ p ∈ (I, it) :: base, p.1 ≠ x := fun p hp => by
  rcases List.mem_cons.mp hp with e | hp
  · rw [e]; exact h
  · exact hb p hp
theorem cons_off {T : KtA} {I : Addr} {it : Obj} {base : List (Addr × Obj)} (h : T.Off I) (hb : ∀ p ∈ base, T.Off p.1) : ∀ p ∈ (I, it) :: base, T.Off p.1 := fun p hp => by
  rcases List.mem_cons.mp hp with e | hp
  · rw [e]; exact h
  · exact hb p hp
theorem LawSt.env (S : LawSt w T nm namesA bA outA first place base R ov mo news) (hnl : ∀ n t, nm n = some t → t.length ≤ 10) (hl : R.length < 1000) : ShowEnv w news T.kt namesA R nm :=
  ⟨S.tab.rows.rec fun vs nr h len rows => ⟨T.rows, T.idx, T.dep, T.wei, T.opn, vs, nr, S.tab.kt, h, len ▸ hl, rows⟩, S.names, hnl, fun k s tid args e => Nat.le_trans (S.small _ _ e) (by decide), fun k o mid args e => Nat.le_trans (S.small _ _ e) (by decide)⟩
end
def LawSt.Next {w : World} {T : KtA} {nm : Nat → Option Str} {namesA bA outA : Addr} {first : Nat} {place : Str} {base : List (Addr × Obj)} {R : List TRow} {ov : List Value} {mo : Nat} {news : List (Addr × Obj)} (_ : LawSt w T nm namesA bA outA first place base R ov mo news) (r n : Nat) (news' : List (Addr × Obj)) : Prop :=
  ∃ (R' : List TRow) (ov' : List Value) (mo' : Nat), LawSt w T nm namesA bA outA first place base R' ov' mo' news' ∧ R'.length ≤ r ∧ ov'.length ≤ n
inductive LawJ (w : World) (T : KtA) (nm : Nat → Option Str) (namesA bA outA : Addr) (first : Nat) (place : Str) (len : Nat) (base : List (Addr × Obj)) (i : Nat) (vals : List Value) (news : List (Addr × Obj)) : Prop
  | mk (e : vals = []) (R : List TRow) (ov : List Value) (mo : Nat) (st : LawSt w T nm namesA bA outA first place base R ov mo news) (hR : R.length ≤ len + 2 * i) (hov : ov.length ≤ 2 * i) : LawJ w T nm namesA bA outA first place len base i vals news
end Mine

end
theorem Mine.top_offNG1 : True := by w_top off; trivial
theorem Mine.turnNG1 {M : Model} {A : Around} {env : Env} {Q : Flow → Shared → Prop} {E : Value → Shared → Prop} {s : Shared} (h : Q .next s) : wpAny M A (execs [] env) Q E s := by walk1; exact h
section
-- G2_lawful
local macro_rules | `(tactic| walk_at $k:str) => do
  if k.getString == "subscriptTail" then `(tactic| (k_here; (fail_if_success with_reducible show wpAny _ _ (subscriptTail _ _ (Value.ref 258) _) _ _ _); refine Mine.hold_ ?_)) else
  if ["binaryOp Mod int int", "binaryOp Add int int", "call builtin:dict.get cons nil", "execs cons If"].contains k.getString then `(tactic| refine Mine.hold_ ?_) else Lean.Macro.throwUnsupported
local macro_rules | `(tactic| walk_at "getMethod ref") => `(tactic| (k_here; (with_reducible show wpAny _ _ (getMethod (Value.ref _) (Str.ofString "get") _) _ _ _); refine Mine.hold_ ?_))
namespace Mine
open PySem.Spec PyProof.V PySem.Calls
theorem txt_box {t : Str} (h : t.length ≤ 100) : (Str.ofString "boxed ").length + t.length ≤ 16777216 := by rw [l_boxed]; omega
theorem txt_ro {t : Str} (h : t.length ≤ 100) : (Str.ofString "readonly ").length + t.length ≤ 16777216 ∧ (Str.ofString "readonly " ++ t).length + (Str.ofString "&").length ≤ 16777216 := by rw [len_app, l_ro, l_amp]; omega
theorem txt_raw {t : Str} (h : t.length ≤ 100) : (Str.ofString "raw ").length + t.length ≤ 16777216 := by rw [l_raw]; omega
theorem txt_by {t : Str} (h : t.length ≤ 100) : t.length + (Str.ofString "&").length ≤ 16777216 := by rw [l_amp]; omega
theorem txt_ftn {t place : Str} {b : Nat} (h : t.length ≤ 100) (hb : (numText b).length ≤ 3) (hp : place.length ≤ 100) :
    (Str.ofString "method ").length + t.length ≤ 16777216 ∧ (Str.ofString "method " ++ t).length + (Str.ofString "::").length ≤ 16777216 ∧ ((Str.ofString "method " ++ t) ++ Str.ofString "::").length + (numText b).length ≤ 16777216 ∧ (((Str.ofString "method " ++ t) ++ Str.ofString "::") ++ numText b).length + (Str.ofString "<").length ≤ 16777216 ∧
    ((((Str.ofString "method " ++ t) ++ Str.ofString "::") ++ numText b) ++ Str.ofString "<").length + place.length ≤ 16777216 ∧ (((((Str.ofString "method " ++ t) ++ Str.ofString "::") ++ numText b) ++ Str.ofString "<") ++ place).length + (Str.ofString ", ").length ≤ 16777216 ∧
    ((((((Str.ofString "method " ++ t) ++ Str.ofString "::") ++ numText b) ++ Str.ofString "<") ++ place) ++ Str.ofString ", ").length + t.length ≤ 16777216 ∧ (((((((Str.ofString "method " ++ t) ++ Str.ofString "::") ++ numText b) ++ Str.ofString "<") ++ place) ++ Str.ofString ", ") ++ t).length + (Str.ofString ">").length ≤ 16777216 := by
  simp only [len_app, l_meth, l_col, l_lt, l_gt, l_comma]
  omega
theorem four_ways {n : Nat} (h : n < 4) : n = 0 ∨ n = 1 ∨ n = 2 ∨ n = 3 := by omega
set_option maxHeartbeats 16000000 in
theorem c_lawful {w : World} {namesA : Addr} {nm : Nat → Option Str} {a b : Nat} {ta tb : Tok} (hnl : ∀ n t, nm n = some t → t.length ≤ 10) (ha : a < 211) (hb : b < 211) :
    Ctl w (.ref 309) [.ref namesA, .int (a : Int) ta, .int (b : Int) tb] 100 3000 (fun news => NamesAt w news namesA nm) (fun news r news' => r = .bool true ∧ ∀ p ∈ news, p ∈ news') := by
  unfold Ctl
  k_fill
  intro dp un gd cn cs' ax ccd cl outer A₀ base h₀ L m news sh mean mg mb Q E B F X N TP hk hnm hroom hunits ret
  have ha' : a < 1000 := Nat.lt_trans ha (by decide)
  have hb' : b < 1000 := Nat.lt_trans hb (by decide)
  have hbt : 30 + b < 1000 := Nat.lt_trans (Nat.add_lt_add_left hb 30) (by decide)
  have hT1 : (Str.ofString "!").length + (numText a).length ≤ 16777216 := by have := numText_len ha'; rw [l_bang]; omega
  have hT2 : (Str.ofString "!!").length + (numText b).length ≤ 16777216 := by have := numText_len hb'; rw [l_bang2]; omega
  have hT3 : (Str.ofString "T").length + (numText (30 + b)).length ≤ 16777216 := by have := numText_len hbt; rw [l_T]; omega
  have hpl : (Str.ofString "!" ++ numText a).length ≤ 100 := by have := numText_len ha'; rw [len_app, l_bang]; omega
  have hT4 : (nameText nm (30 + b)).length + (Str.ofString "<").length ≤ 16777216 := by have := nameText_len hnl hbt; rw [l_lt]; omega
  have hT5 : (nameText nm (30 + b) ++ Str.ofString "<").length + (Str.ofString "!" ++ numText a).length ≤ 16777216 := by have := nameText_len hnl hbt; have := numText_len ha'; rw [len_app, len_app, l_lt, l_bang]; omega
  have hT6 : ((nameText nm (30 + b) ++ Str.ofString "<") ++ (Str.ofString "!" ++ numText a)).length + (Str.ofString ">").length ≤ 16777216 := by have := nameText_len hnl hbt; have := numText_len ha'; rw [len_app, len_app, len_app, l_lt, l_bang, l_gt]; omega
  refine wpAny_call ?_
  k_dflt ktr_enter
  with_reducible rename Fr _ _ _ _ => F1
  replace F1 := fr_of (fun y => List.lookup y [(Str.ofString "b", Value.int (b : Int) tb), (Str.ofString "a", Value.int (a : Int) ta), (Str.ofString "names", Value.ref namesA)]) F1 (by with_unfolding_all rfl)
  with_reducible rename Below _ _ _ _ => B1
  with_reducible rename Top _ _ _ _ _ _ => T1
  with_reducible rename Frag.In _ _ => X1
  k_steps
  unfold Hold
  k_dflt (refine' Ctl.use c_new ?B ?F ?X ?N ?T ?hk trivial ?d ?u ?_; walk_at "m_ctl")
  intro r0 h0 tk0 n0 F0 N0 p0
  refine hideG ?_
  intro P k9
  obtain ⟨T, R0, er, hK0, hn0, s0, o0⟩ := p0
  subst er
  have hoN : T.Off namesA := hnm.2.elim fun o h => h.elim fun kvs h => h.elim fun D h => o0 _ h.1
  have hl0 : R0.length < 1000 := by rw [hn0]; decide
  have hsm0 := small_new hK0 hn0
  refine k9 ?_
  clear k9
  k_steps
  unfold Hold
  k_dflt (refine' Ctl.uP (c_mkvar (x := a) hl0) ?B ?F ?X ?N ?T ?hk ?hp ?d ?u ?_; walk_at "m_ctl"; (case hp => exact hK0))
  intro first tf h1 tk1 n1 R1 F1 N1 p1
  have S1 : MkSt w T nm namesA first a news R1 [] 17 n1 := ⟨p1.ok, names_keep hnm fun o q => p1.keep _ (s0 _ q) hoN, fun p hp => p1.keep _ (s0 _ hp) (o0 _ hp), hsm0.put p1.only trivial, Nat.le_trans p1.len (Nat.le_of_eq (congrArg (· + 1) hn0)), p1.at_, fun _ h => nomatch h⟩
  have hb1 : BaseT R1 nm first _ := base_var (ktok_16 p1.ok p1.at_ (fun x e => nomatch e)) p1.at_ ha'
  clear hK0 p1 hsm0 s0 hnm
  k_steps
  unfold Hold
  with_reducible rename News _ _ _ _ => N2
  k_dflt (refine' m_namesMethod N2 S1.names ?_)
  k_steps
  unfold Hold
  k_dflt ((refine' Mine.m_addL 30 (rfl : (30 : Int) = ((30 : Nat) : Int)) ?_); k_whole)
  k_steps
  unfold Hold
  k_dflt ((refine' Mine.m_addL 30 (rfl : (30 : Int) = ((30 : Nat) : Int)) ?_); k_whole)
  k_steps
  unfold Hold
  k_dflt (refine' m_namesGet (n := 30 + b) N2 S1.names rfl ?_)
  intro tw
  k_steps
  unfold Hold
  with_reducible rename News _ _ _ _ => N3
  have S2 := (S1.monoN N3 fun p hp => .tail _ hp).add (.head _) hb1
  k_dflt (refine' Ctl.uP (c_mkmvar (x := b) (Nat.lt_of_le_of_lt S2.len (by decide))) ?B ?F ?X ?N ?T ?hk ?hp ?d ?u ?_; walk_at "m_ctl"; (case hp => exact S2.tab))
  intro k2 t2 h2 tk2 n2 R2 F2 N2 p2
  have S3 := S2.put N3 hoN o0 p2 trivial
  have hb2 : BaseT R2 nm k2 _ := base_mvar (ktok_16 p2.ok p2.at_ (fun x e => nomatch e)) p2.at_ hb'
  clear S1 S2 hb1 p2
  k_steps
  unfold Hold
  k_dflt ((refine' Mine.m_addL 30 (rfl : (30 : Int) = ((30 : Nat) : Int)) ?_); k_whole)
  k_steps
  unfold Hold
  with_reducible rename News _ _ _ _ => N4
  have S4 := (S3.monoN N4 fun p hp => .tail _ (.tail _ hp)).add (.tail _ (.head _)) hb2
  k_dflt (refine' Ctl.uP (c_mkval (t := 30 + b) (vs := []) (as := []) .nil (Nat.le_add_right _ _) hbt (Nat.zero_le _) (fun _ h => (nomatch h)) (Nat.lt_of_le_of_lt S4.len (by decide))) ?B ?F ?X ?N ?T ?hk ?hp ?d ?u ?_; walk_at "m_ctl"; (case hp => exact ⟨S4.tab, .head _⟩))
  intro k3 t3 h3 tk3 n3 R3 F3 N3 p3
  have S5 := S4.put N4 hoN o0 p3 (Nat.zero_le _)
  have hb3 : BaseT R3 nm k3 _ := base_val hnl (ktok_16 p3.ok p3.at_ (fun x e => nomatch e)) p3.at_ hbt
  clear S3 S4 hb2 p3
  k_steps
  unfold Hold
  k_dflt ((refine' Mine.m_addL 30 (rfl : (30 : Int) = ((30 : Nat) : Int)) ?_); k_whole)
  k_steps
  unfold Hold
  with_reducible rename Fr _ _ _ _ => F5
  with_reducible rename News _ _ _ _ => N5
  have S6 := (S5.monoN N5 fun p hp => .tail _ (.tail _ hp)).add (.tail _ (.head _)) hb3
  have hfirst : ∀ x ∈ [first], ∃ r, R3[x]? = some r ∧ Base x r ∧ capOf r ≤ 1 := fun x hx => by rw [List.mem_singleton.mp hx]; exact ⟨_, S6.row, .inr ⟨ktok_16 S6.tab S6.row (fun x e => nomatch e), .inl rfl⟩, Nat.le_refl 1⟩
  k_dflt (refine Ctl.uP (c_mkval (t := 30 + b) (as := [first]) (.cons _ _ .nil) (Nat.le_add_right _ _) hbt (Nat.le_refl 1) hfirst (Nat.lt_of_le_of_lt S6.len (by decide))) B1 F5 X1 N5 T1 rfl ⟨S6.tab, .head _⟩ ?d ?u ?_; (case d => first | exact Mine.room1 hroom rfl | ktr_room); (case u => first | exact Mine.room1 hunits rfl | ktr_units))
  intro k4 t4 h4 tk4 n4 R4 F4 N4 p4
  have S7 := S6.put N5 hoN o0 p4 (Nat.le_succ 1)
  have hb4 : BaseT R4 nm k4 _ := base_val1 hnl (ktok_16 p4.ok p4.at_ (fun x e => nomatch e)) p4.at_ S7.row hbt ha'
  clear S5 S6 hb3 p4 hfirst
  k_steps
  unfold Hold
  k_dflt ((refine' Mine.m_modK 11 (rfl : (11 : Int) = ((11 : Nat) : Int)) (by decide) ?_); k_whole)
  k_steps
  unfold Hold
  k_dflt ((refine' Mine.m_addL 1 (rfl : (1 : Int) = ((1 : Nat) : Int)) ?_); k_whole)
  k_steps
  unfold Hold
  k_dflt ((refine' Mine.m_modK 11 (rfl : (11 : Int) = ((11 : Nat) : Int)) (by decide) ?_); k_whole)
  k_steps
  unfold Hold
  k_dflt ((refine' Mine.m_addL 1 (rfl : (1 : Int) = ((1 : Nat) : Int)) ?_); k_whole)
  k_steps
  unfold Hold
  with_reducible rename Fr _ _ _ _ => F6
  with_reducible rename News _ _ _ _ => N6
  with_reducible rename IsRange _ _ _ _ _ _ _ _ => hr1
  with_reducible rename (_ ∧ _ ∧ _ ∧ AllLt _ n4) => hlt
  have hlt' := tb_ltOf hlt.2.2.2
  have hoO := ktok_newOff S7.tab hlt'
  have hbO : ∀ p ∈ news, p.1 ≠ _ := fun p hp => Nat.ne_of_lt (hlt' _ (S7.keep p hp))
  have hnO := S7.names.2.elim fun o h => h.elim fun kvs h => h.elim fun D h => Nat.ne_of_lt (show namesA < _ from hlt' (namesA, o) h.1)
  have h12 : 1 + a % 11 ≤ 11 := by have := Nat.mod_lt a (show 11 > 0 by decide); omega
  have hL0 := (((S7.monoN N6 fun p hp => .tail _ (.tail _ (.tail _ (.tail _ hp)))).add (.tail _ (.tail _ (.tail _ (.head _)))) hb4).add (.tail _ (.tail _ (.head _))) (base_prim' (S7.tab.prim _ (Nat.lt_of_le_of_lt h12 (by decide))) (Nat.le_add_right _ _) h12)).law (outA := _) rfl (.tail _ (.head _)) (base_var (ktok_16 S7.tab S7.row (fun x e => nomatch e)) S7.row ha') (.head _)
  have hR4 := S7.len
  clear hb4 S7 hlt hlt' h12
  refine m_forR (x := Str.ofString "j") (n := 5) [] [Str.ofString "k", Str.ofString "text", Str.ofString "layer"] [] (LawJ w T nm namesA _ _ first (Str.ofString "!" ++ numText a) 20 news) rfl hr1 (by decide) (by decide) F6 N6 ⟨rfl, R4, [], _, hL0, hR4, Nat.zero_le _⟩ (fun _ h => nomatch h) ?_ ?_
  · intro I i tn it h tk vals u news₁ hI hi5 hic hoff hJ F3 N3 K hK
    refine hideG ?_
    intro P k9
    obtain ⟨e9, R, ov, mo, S, hRl, hovl⟩ := hJ
    subst e9
    have oI := ktok_neOff S.tab hoff
    have nI := S.namesNe hoff
    have uI := S.outNe hoff
    have bI : ∀ p ∈ news, p.1 ≠ I := fun p hp => hoff p (S.keep p hp)
    have S1 := S.push (q := (I, it))
    have oB := cons_off (it := it) oI o0
    have oU := cons_ne (it := it) uI.symm hbO
    obtain ⟨ps, mp, hbm, hbl, hbp⟩ := S1.bases
    have hi5' : i < ps.length := hbl ▸ hi5
    obtain ⟨p, k, t, tk', tt, m', ev, hpm, hbT⟩ := hbp i ps[i] (List.getElem?_eq_getElem hi5')
    have hpsi : ps[i]? = some (.ref p) := by rw [List.getElem?_eq_getElem hi5', ev]
    obtain ⟨r, hr, hbr⟩ := hbT.1
    have hlt := hbT.2.1
    have hl30 : R.length ≤ 30 := Nat.le_trans hRl (Nat.add_le_add_left (Nat.mul_le_mul_left 2 (Nat.le_of_lt hi5)) 20)
    have hlR : R.length < 1000 := Nat.lt_of_le_of_lt hl30 (by decide)
    have ho10 : ov.length ≤ 10 := Nat.le_trans hovl (Nat.mul_le_mul_left 2 (Nat.le_of_lt hi5))
    have hov1 : ov.length ≤ 16384 := Nat.le_trans ho10 (by decide)
    have z0 := txt_box hlt
    have hout := S1.out
    refine k9 ?_
    clear k9 hr1 hL0 S hbp ev F6 N6 hoff
    simp only [Int.zero_add] at F3
    k_steps
    unfold Hold
    with_reducible rename News _ _ _ _ => N4
    refine m_itemTup N4 hbm (k := ((i : Nat) : Int)) hpsi (Int.natCast_nonneg _) (n63 hi5 rfl) ?_
    k_steps
    unfold Hold
    with_reducible rename Fr _ _ _ _ => F4
    with_reducible rename News _ _ _ _ => N4
    k_dflt (refine Ctl.uP (c_mkbox hr hbr hlR) B1 F4 X1 N4 T1 rfl S1.tab ?d ?u ?_; (case d => first | exact Mine.room1 hroom rfl | ktr_room); (case u => first | exact Mine.room1 hunits rfl | ktr_units))
    intro kb tb hB tkB newsB RB FB NB pB
    have SB := S1.put N4 hoN hoO oB pB trivial
    have hbTB := hbT.ext pB.ext
    have hrB := pB.ext _ _ hr
    have hTB := told_box pB.at_ hbTB
    have hlenB := pB.len
    have hlB : RB.length < 1000 := Nat.lt_of_le_of_lt (Nat.le_trans hlenB (Nat.succ_le_succ hl30)) (by decide)
    have houtB := SB.out
    clear S1 hbT hr hout pB hbm hpm hpsi
    k_steps
    unfold Hold
    with_reducible rename Fr _ _ _ _ => F5
    with_reducible rename News _ _ _ _ => N5
    k_dflt (refine' m_append F5 N5 (.tail _ houtB) hov1 ?_)
    intro hC newsC FC NC mC sC
    have SC := (SB.monoN N5 fun p hp => .tail _ hp).app N5 hoO hnO oU (.head _) hTB mC sC
    have houtC := SC.out
    have hov2 := Nat.le_trans (ov_len mC ho10) (show 10 + 1 ≤ 16384 by decide)
    clear SB houtB hTB
    k_steps
    unfold Hold
    k_dflt ((refine' Mine.m_addN a i ?_); k_whole)
    k_steps
    unfold Hold
    k_dflt ((refine' Mine.m_modK 4 (rfl : (4 : Int) = ((4 : Nat) : Int)) (by decide) ?_); k_whole)
    k_steps
    unfold Hold
    with_reducible rename Fr _ _ _ _ => F7
    refine wpAny_execs_cons ?_
    refine midV (Str.ofString "layer") (fun _ news' => SC.Next (R.length + 1 + 1) (ov.length + 1 + 1) news') F7 ?_ ?_
    · intro v8 h8 k8 news8 P8 F8 N8
      refine hideG ?_
      intro P k9
      obtain ⟨R', ov', mo', SE, hl9, ho9⟩ := P8
      have SF := SE.drop N8 hic (by decide) (by decide) oI nI uI bI
      have hIE := SE.keep _ (.head _)
      refine k9 ?_
      clear k9 SC houtC
      k_steps
      unfold Hold KP
      exact hK .next _ (MEnd.of F8 N8 hIE (fun _ h => nomatch h) rfl (fun z g1 g2 _ => by
        simp only [List.contains_cons, List.contains_nil, Bool.or_false, Bool.or_eq_false_iff, beq_eq_false_iff_ne] at g2
        simp [g1, g2, setN]) ⟨rfl, R', ov', mo', SF, Nat.le_trans hl9 (Nat.le_trans (Nat.add_le_add_right (Nat.add_le_add_right hRl 1) 1) (Nat.le_refl _)), Nat.le_trans ho9 (Nat.add_le_add_right (Nat.add_le_add_right hovl 1) 1)⟩)
    · intro K2 hK2
      refine wpAny_If ?_
      have hm4 := Nat.mod_lt (a + i) (show 4 > 0 by decide)
      rcases four_ways hm4 with h4 | h4 | h4 | h4
      · clear z0
        have hz := txt_ro hlt
        have z0 := hz.1
        have z1 := hz.2
        k_dflt (refine' Mine.m_isT (x₀ := Str.empty) (vs := []) (fun h => absurd rfl h) F7 ?X (topRead_of ?T) rfl (.cast ?e (show ((((a + i) % 4 : Nat) : Int) == 0) = true by rw [h4]; rfl)) ?_; (case X => k_asm); (case T => k_asm); (case e => walk_at "m_tst"))
        intro q0
        k_steps
        unfold Hold
        with_reducible rename Fr _ _ _ _ => F8
        with_reducible rename News _ _ _ _ => N8
        k_dflt (refine Ctl.uP (c_mkro hrB hbr hlB) B1 F8 X1 N8 T1 rfl SC.tab ?d ?u ?_; (case d => first | exact Mine.room1 hroom rfl | ktr_room); (case u => first | exact Mine.room1 hunits rfl | ktr_units))
        intro kd td hD tkD newsD RD FD ND pD
        have SD := SC.put N8 hoN hoO oB pD trivial
        have hTD := told_ro pD.at_ (hbTB.ext pD.ext)
        have houtD := SD.out
        clear houtC hz
        k_steps
        unfold Hold
        with_reducible rename Fr _ _ _ _ => F9
        with_reducible rename News _ _ _ _ => N9
        k_dflt (refine' m_append F9 N9 (.tail _ houtD) hov2 ?_)
        intro hE newsE FE NE mE sE
        have SE := (SD.monoN N9 fun p hp => .tail _ hp).app N9 hoO hnO oU (.head _) hTD mE sE
        clear SD houtD
        k_steps
        unfold Hold KP
        exact hK2 _ (.keep rfl (by assumption) (by assumption) ⟨RD, _, _, SE, Nat.le_trans pD.len (Nat.succ_le_succ hlenB), Nat.le_of_eq (by rw [len_snoc, len_snoc])⟩)
      · clear z0
        have hz := txt_raw hlt
        have z0 := hz
        k_dflt (refine' Mine.m_isF (x₀ := Str.empty) (vs := []) (fun h => absurd rfl h) F7 ?X (topRead_of ?T) rfl (.cast ?e (show ((((a + i) % 4 : Nat) : Int) == 0) = false by rw [h4]; rfl)) ?_; (case X => k_asm); (case T => k_asm); (case e => walk_at "m_tst"))
        intro q0
        refine wpAny_execs_cons (wpAny_If ?_)
        k_dflt (refine' Mine.m_isT (x₀ := Str.empty) (vs := []) (fun h => absurd rfl h) F7 ?X (topRead_of ?T) rfl (.cast ?e (show ((((a + i) % 4 : Nat) : Int) == 1) = true by rw [h4]; rfl)) ?_; (case X => k_asm); (case T => k_asm); (case e => walk_at "m_tst"))
        intro q1
        k_steps
        unfold Hold
        with_reducible rename Fr _ _ _ _ => F8
        with_reducible rename News _ _ _ _ => N8
        k_dflt (refine Ctl.uP (c_mkraw hrB hbr hlB) B1 F8 X1 N8 T1 rfl SC.tab ?d ?u ?_; (case d => first | exact Mine.room1 hroom rfl | ktr_room); (case u => first | exact Mine.room1 hunits rfl | ktr_units))
        intro kd td hD tkD newsD RD FD ND pD
        have SD := SC.put N8 hoN hoO oB pD trivial
        have hTD := told_raw pD.at_ (hbTB.ext pD.ext)
        have houtD := SD.out
        clear houtC hz
        k_steps
        unfold Hold
        with_reducible rename Fr _ _ _ _ => F9
        with_reducible rename News _ _ _ _ => N9
        k_dflt (refine' m_append F9 N9 (.tail _ houtD) hov2 ?_)
        intro hE newsE FE NE mE sE
        have SE := (SD.monoN N9 fun p hp => .tail _ hp).app N9 hoO hnO oU (.head _) hTD mE sE
        clear SD houtD
        k_steps
        unfold Hold KP
        exact hK2 _ (.keep rfl (by assumption) (by assumption) ⟨RD, _, _, SE, Nat.le_trans pD.len (Nat.succ_le_succ hlenB), Nat.le_of_eq (by rw [len_snoc, len_snoc])⟩)
      · clear z0
        have hz := txt_by hlt
        have z0 := hz
        k_dflt (refine' Mine.m_isF (x₀ := Str.empty) (vs := []) (fun h => absurd rfl h) F7 ?X (topRead_of ?T) rfl (.cast ?e (show ((((a + i) % 4 : Nat) : Int) == 0) = false by rw [h4]; rfl)) ?_; (case X => k_asm); (case T => k_asm); (case e => walk_at "m_tst"))
        intro q0
        refine wpAny_execs_cons (wpAny_If ?_)
        k_dflt (refine' Mine.m_isF (x₀ := Str.empty) (vs := []) (fun h => absurd rfl h) F7 ?X (topRead_of ?T) rfl (.cast ?e (show ((((a + i) % 4 : Nat) : Int) == 1) = false by rw [h4]; rfl)) ?_; (case X => k_asm); (case T => k_asm); (case e => walk_at "m_tst"))
        intro q1
        refine wpAny_execs_cons (wpAny_If ?_)
        k_dflt (refine' Mine.m_isT (x₀ := Str.empty) (vs := []) (fun h => absurd rfl h) F7 ?X (topRead_of ?T) rfl (.cast ?e (show ((((a + i) % 4 : Nat) : Int) == 2) = true by rw [h4]; rfl)) ?_; (case X => k_asm); (case T => k_asm); (case e => walk_at "m_tst"))
        intro q2
        k_steps
        unfold Hold
        with_reducible rename Fr _ _ _ _ => F8
        with_reducible rename News _ _ _ _ => N8
        k_dflt (refine Ctl.uP (c_mkby hrB hbr hlB) B1 F8 X1 N8 T1 rfl SC.tab ?d ?u ?_; (case d => first | exact Mine.room1 hroom rfl | ktr_room); (case u => first | exact Mine.room1 hunits rfl | ktr_units))
        intro kd td hD tkD newsD RD FD ND pD
        have SD := SC.put N8 hoN hoO oB pD trivial
        have hTD := told_by pD.at_ (hbTB.ext pD.ext)
        have houtD := SD.out
        clear houtC hz
        k_steps
        unfold Hold
        with_reducible rename Fr _ _ _ _ => F9
        with_reducible rename News _ _ _ _ => N9
        k_dflt (refine' m_append F9 N9 (.tail _ houtD) hov2 ?_)
        intro hE newsE FE NE mE sE
        have SE := (SD.monoN N9 fun p hp => .tail _ hp).app N9 hoO hnO oU (.head _) hTD mE sE
        clear SD houtD
        k_steps
        unfold Hold KP
        exact hK2 _ (.keep rfl (by assumption) (by assumption) ⟨RD, _, _, SE, Nat.le_trans pD.len (Nat.succ_le_succ hlenB), Nat.le_of_eq (by rw [len_snoc, len_snoc])⟩)
      · clear z0
        have hz := txt_ftn (b := b) (place := Str.ofString "!" ++ numText a) hlt (numText_len hb') hpl
        have z0 := hz.1
        have z1 := hz.2.1
        have z2 := hz.2.2.1
        have z3 := hz.2.2.2.1
        have z4 := hz.2.2.2.2.1
        have z5 := hz.2.2.2.2.2.1
        have z6 := hz.2.2.2.2.2.2.1
        have z7 := hz.2.2.2.2.2.2.2
        k_dflt (refine' Mine.m_isF (x₀ := Str.empty) (vs := []) (fun h => absurd rfl h) F7 ?X (topRead_of ?T) rfl (.cast ?e (show ((((a + i) % 4 : Nat) : Int) == 0) = false by rw [h4]; rfl)) ?_; (case X => k_asm); (case T => k_asm); (case e => walk_at "m_tst"))
        intro q0
        refine wpAny_execs_cons (wpAny_If ?_)
        k_dflt (refine' Mine.m_isF (x₀ := Str.empty) (vs := []) (fun h => absurd rfl h) F7 ?X (topRead_of ?T) rfl (.cast ?e (show ((((a + i) % 4 : Nat) : Int) == 1) = false by rw [h4]; rfl)) ?_; (case X => k_asm); (case T => k_asm); (case e => walk_at "m_tst"))
        intro q1
        refine wpAny_execs_cons (wpAny_If ?_)
        k_dflt (refine' Mine.m_isF (x₀ := Str.empty) (vs := []) (fun h => absurd rfl h) F7 ?X (topRead_of ?T) rfl (.cast ?e (show ((((a + i) % 4 : Nat) : Int) == 2) = false by rw [h4]; rfl)) ?_; (case X => k_asm); (case T => k_asm); (case e => walk_at "m_tst"))
        intro q2
        k_steps
        unfold Hold
        with_reducible rename Fr _ _ _ _ => F8
        with_reducible rename News _ _ _ _ => N8
        have hall : ∀ x ∈ [k, first, k], ∃ r, RB[x]? = some r ∧ Base x r := all3 (P := fun x => ∃ r, RB[x]? = some r ∧ Base x r) ⟨_, hrB, hbr⟩ SC.fst.1 ⟨_, hrB, hbr⟩
        k_dflt (refine Ctl.uP (c_mkftn (o := k) (mm := b) (as := [first, k]) (.cons _ _ (.cons _ _ .nil)) (Nat.le_refl 2) hall hlB) B1 F8 X1 N8 T1 rfl ⟨SC.tab.mono fun p hp => .tail _ hp, .head _⟩ ?d ?u ?_; (case d => first | exact Mine.room1 hroom rfl | ktr_room); (case u => first | exact Mine.room1 hunits rfl | ktr_units))
        intro kd td hD tkD newsD RD FD ND pD
        have SD := (SC.monoN N8 fun p hp => .tail _ hp).put N8 hoN hoO oB pD (Nat.le_refl 2)
        have hTD := told_ftn pD.at_ hb' (hbTB.ext pD.ext) (SC.fst.ext pD.ext)
        have houtD := SD.out
        clear houtC hz hall
        k_steps
        unfold Hold
        with_reducible rename Fr _ _ _ _ => F9
        with_reducible rename News _ _ _ _ => N9
        k_dflt (refine' m_append F9 N9 (.tail _ houtD) hov2 ?_)
        intro hE newsE FE NE mE sE
        have SE := (SD.monoN N9 fun p hp => .tail _ hp).app N9 hoO hnO oU (.head _) hTD mE sE
        clear SD houtD
        k_steps
        unfold Hold KP
        exact hK2 _ (.keep rfl (by assumption) (by assumption) ⟨RD, _, _, SE, Nat.le_trans pD.len (Nat.succ_le_succ hlenB), Nat.le_of_eq (by rw [len_snoc, len_snoc])⟩)
  · intro vals u news₁ h tk hJ F3 N3
    refine hideG ?_
    intro P k9
    obtain ⟨e9, R, ov, mo, S, hRl, hovl⟩ := hJ
    subst e9
    have env := S.env hnl (Nat.lt_of_le_of_lt hRl (by decide))
    have hout := S.out
    refine k9 ?_
    clear k9 hr1 hL0 F6 N6
    k_steps
    with_unfolding_all refine' For_turns F3 ?_
    k_steps
    unfold Hold
    refine m_turnL (x := Str.ofString "k") (lo := W.listOf ov.toArray mo) (vs := ov) (k := mo) [] [Str.ofString "k", Str.ofString "text"] [] (SubJ news₁) rfl rfl hout rfl rfl F3 N3 (fun _ h => h) (fun _ h => nomatch h) ?_ ?_
    · intro I i v it h tk vals u news₂ hI hv hic hoff hlm hJ F4 N4 K hK
      refine hideG ?_
      intro P k9
      have hb2 : ∀ p ∈ news₁, p ∈ news₂ := hJ
      obtain ⟨p, k, t, tk', tt, m', ev, hpm, hT⟩ := S.ok i v hv
      subst ev
      have hpm1 := hb2 _ hpm
      refine k9 ?_
      clear k9 F3 N3 hv
      k_steps
      unfold Hold
      refine wpAny_execs_cons (wpAny_If ?_)
      k_steps
      unfold Hold
      with_reducible rename Fr _ _ _ _ => F5
      with_reducible rename News _ _ _ _ => N5
      k_dflt (refine' Ctl.u1 (c_show env (k := k) hT.2 (by decide)) ?B F5 ?X N5 ?T ?hk ?hp ?d ?u ?_; (case B => k_asm); (case X => k_asm); (case T => k_asm); (case hk => exact rfl); (case hp => exact fun p hp => .tail _ (hb2 p hp)); (case d => exact Mine.room1 hroom rfl); (case u => exact Mine.room1 hunits rfl))
      intro t9 h9 tk9 news9 F9 N9 s9
      k_steps
      · rename (_ != _) = true => hbad
        exact absurd hbad (by simp)
      unfold Hold KP
      exact hK .next _ (MEnd.of F9 N9 (s9 _ (.head _)) (fun p hp => by rw [List.mem_singleton.mp hp]; exact s9 _ (.tail _ hlm)) rfl (fun z g1 g2 _ => by
            simp only [List.contains_cons, List.contains_nil, Bool.or_false, Bool.or_eq_false_iff, beq_eq_false_iff_ne] at g2
            simp [g1, g2, setN]) (fun p hp => mem_offI.mpr ⟨s9 _ (.tail _ (hb2 p hp)), hoff p (hb2 p hp)⟩))
    · intro vals u news₂ h tk hJ hlm F4 N4
      have hb2 : ∀ p ∈ news₁, p ∈ news₂ := hJ
      have hfin := fun p (hp : p ∈ news) => hb2 p (S.keep p hp)
      clear F3 N3
      k_steps
      exact ret _ _ _ news₂ (by assumption) (by assumption) ⟨rfl, hfin⟩
end Mine

end
theorem Mine.top_offNG2 : True := by w_top off; trivial
theorem Mine.turnNG2 {M : Model} {A : Around} {env : Env} {Q : Flow → Shared → Prop} {E : Value → Shared → Prop} {s : Shared} (h : Q .next s) : wpAny M A (execs [] env) Q E s := by walk1; exact h
section
-- H1_plain
namespace Mine
open PySem.Spec PyProof.V PySem.Calls

structure Inv (s : LS) (cs : List Nat) : Prop where
  l1 : s.laid.length = s.rows.length
  l2 : cs.length = s.rows.length
  st : ∀ (j : Nat) (r : LRow), s.rows[j]? = some r → ∃ k, s.laid[j]? = some k ∧ Stand s.R s.laid k r
  ok : ∀ (j : Nat) (r : LRow), s.rows[j]? = some r → RowOk cs j r

theorem map_more {laid l : List Nat} : ∀ {ps as : List Nat}, ps.map (fun j => laid[j]?) = as.map some → ps.map (fun j => (laid ++ l)[j]?) = as.map some
  | [], [], _ => rfl
  | [], _ :: _, h => by simp at h
  | _ :: _, [], h => by simp at h
  | p :: ps, a :: as, h => by
    simp only [List.map_cons, List.cons.injEq] at h ⊢
    exact ⟨by rw [List.getElem?_append_left (List.getElem?_eq_some_iff.mp h.1).1]; exact h.1, map_more h.2⟩
theorem Stand.more {R R' : List TRow} {laid l : List Nat} {k : Nat} {r : LRow} (hx : Ext R R') (h : Stand R laid k r) : Stand R' (laid ++ l) k r := by
  cases r with
  | word n => exact ⟨h.1, h.2.1, hx _ _ h.2.2⟩
  | var n => exact hx _ _ h
  | mvar n => exact hx _ _ h
  | typ n ps => obtain ⟨s, as, h1, h2, h3⟩ := h; exact ⟨s, as, h1, hx _ _ h2, map_more h3⟩
  | meth n ps => obtain ⟨o, as, h2, h3⟩ := h; exact ⟨o, as, hx _ _ h2, map_more h3⟩
  | round n x =>
    obtain ⟨y, h2, h3⟩ := h
    exact ⟨y, hx _ _ h2, by rw [List.getElem?_append_left (List.getElem?_eq_some_iff.mp h3).1]; exact h3⟩
theorem costOf_more {cs l : List Nat} : ∀ {ps : List Nat}, (∀ j ∈ ps, j < cs.length) → costOf (cs ++ l) ps = costOf cs ps
  | [], _ => rfl
  | p :: ps, h => by
    have h1 := h p (.head _)
    have h2 := costOf_more (l := l) (ps := ps) fun j hj => h j (.tail _ hj)
    simp only [costOf, List.map_cons, List.sum_cons] at h2 ⊢
    rw [h2, List.getD_eq_getElem?_getD, List.getElem?_append_left h1, ← List.getD_eq_getElem?_getD]
theorem RowOk.more {cs l : List Nat} {j : Nat} {r : LRow} (h : RowOk cs j r) (hj : j < cs.length) : RowOk (cs ++ l) j r := by
  have e : (cs ++ l).getD j 0 = cs.getD j 0 := by rw [List.getD_eq_getElem?_getD, List.getElem?_append_left hj, ← List.getD_eq_getElem?_getD]
  exact ⟨h.parts, h.num, h.fits, by rw [e, costOf_more fun i hi => Nat.lt_trans (h.parts i hi) hj]; exact h.cost, by rw [e]; exact h.small⟩

theorem inv_snoc {s : LS} {cs : List Nat} {R' : List TRow} {k : Nat} {r : LRow} (I : Inv s cs) (hx : Ext s.R R') (hs : Stand R' (s.laid ++ [k]) k r) (hp : ∀ j ∈ r.parts, j < s.rows.length) (hn : r.num < 1000) (hf : r.fits) (hc : costOf cs r.parts + 1 ≤ 400000) :
    Inv ⟨R', s.laid ++ [k], s.rows ++ [r]⟩ (cs ++ [costOf cs r.parts + 1]) := by
  have e0 : (cs ++ [costOf cs r.parts + 1]).getD s.rows.length 0 = costOf cs r.parts + 1 := by
    rw [← I.l2, List.getD_eq_getElem?_getD]; simp
  refine ⟨by simp [I.l1], by simp [I.l2], fun j r' h => ?_, fun j r' h => ?_⟩
  · rcases get_snoc h with h1 | ⟨h1, e⟩
    · obtain ⟨k', g1, g2⟩ := I.st j r' h1
      exact ⟨k', by show (s.laid ++ [k])[j]? = _; rw [List.getElem?_append_left (List.getElem?_eq_some_iff.mp g1).1]; exact g1, g2.more hx⟩
    · subst e
      exact ⟨k, by show (s.laid ++ [k])[j]? = _; rw [h1, ← I.l1]; simp, hs⟩
  · rcases get_snoc h with h1 | ⟨h1, e⟩
    · exact (I.ok j r' h1).more (by rw [I.l2]; exact (List.getElem?_eq_some_iff.mp h1).1)
    · subst e
      rw [h1]
      exact ⟨hp, hn, hf, by rw [e0, costOf_more (by rw [I.l2]; exact hp)]; exact Nat.le_refl _, by rw [e0]; exact hc⟩

theorem stand_leaf {R : List TRow} {laid : List Nat} {k n : Nat} (h : Stand R [] k (leafRow n)) : Stand R laid k (leafRow n) := by
  unfold leafRow at h ⊢
  split
  · simp only [*, if_true, if_false] at h; exact h
  · split
    · simp only [*, if_true, if_false] at h; exact h
    · split
      · simp only [*, if_true, if_false] at h; exact h
      · simp only [*, if_false] at h
        obtain ⟨s, as, h1, h2, h3⟩ := h
        exact ⟨s, as, h1, h2, h3⟩
theorem leaf_ok (n : Nat) : (leafRow n).parts = [] ∧ (leafRow n).num < 1000 ∧ (leafRow n).fits := by
  unfold leafRow
  split
  · exact ⟨rfl, by show n / 4 % 211 % 16 < 1000; omega, by show n / 4 % 211 % 16 < 16; omega⟩
  · split
    · exact ⟨rfl, by show n / 4 % 211 < 1000; omega, trivial⟩
    · split
      · exact ⟨rfl, by show n / 4 % 211 < 1000; omega, trivial⟩
      · exact ⟨rfl, by show 30 + n / 4 % 211 < 1000; omega, by show [].length ≤ 5; simp⟩
theorem inv_leaf {s : LS} {cs : List Nat} {R' : List TRow} {k n : Nat} (I : Inv s cs) (hx : Ext s.R R') (hs : Stand R' [] k (leafRow n)) : Inv ⟨R', s.laid ++ [k], s.rows ++ [leafRow n]⟩ (cs ++ [1]) := by
  obtain ⟨h1, h2, h3⟩ := leaf_ok n
  have h4 : costOf cs (leafRow n).parts + 1 = 1 := by rw [h1]; rfl
  have := inv_snoc I hx (stand_leaf hs) (by rw [h1]; intro j hj; cases hj) h2 h3 (by rw [h4]; omega)
  rwa [h4] at this
theorem lays_ok {r : LRow} (h : r.lays) : r.num < 1000 ∧ r.fits := by
  cases r with
  | word n => exact h.elim
  | var n => exact h.elim
  | mvar n => exact h.elim
  | typ n ps => exact ⟨h.1, h.2⟩
  | meth n ps => exact ⟨h.1, h.2.1, h.2.2⟩
  | round n x => exact ⟨Nat.lt_trans h (by decide), h⟩
theorem stand_lay {R : List TRow} {laid : List Nat} {r : LRow} (hr : r.lays) (h : ∀ j ∈ r.parts, j < laid.length) : Stand (R ++ [layR laid r]) (laid ++ [R.length]) R.length r := by
  have e : (R ++ [layR laid r])[R.length]? = some (layR laid r) := List.getElem?_concat_length
  have hg := get_map h
  cases r with
  | typ n ps => exact ⟨2 + n % 2, _, by omega, e, map_more hg⟩
  | meth n ps =>
    cases ps with
    | nil => exact absurd hr.2.1 (Nat.lt_irrefl _)
    | cons p ps => exact ⟨_, _, e, map_more hg⟩
  | round n x => exact ⟨_, e, (List.getElem?_append_left (h x (.head _))).trans (List.cons.inj hg).1⟩
  | _ => exact hr.elim
theorem inv_lay {s : LS} {cs : List Nat} {r : LRow} (I : Inv s cs) (hr : r.lays) (hp : ∀ j ∈ r.parts, j < s.rows.length) (hc : costOf cs r.parts + 1 ≤ 400000) : Inv (s.lay r) (cs ++ [costOf cs r.parts + 1]) :=
  inv_snoc I (ext_snoc _ _) (stand_lay hr (by rw [I.l1]; exact hp)) hp (lays_ok hr).1 (lays_ok hr).2 hc
end Mine

-- H2_words
namespace Mine
open PySem.Spec PyProof.V PySem.Calls
theorem wordsOf_spec {nm : Nat → Option Str} {below : List Str} : ∀ (rs : List LRow) (here : List Str), ∃ out, wordsOf nm below rs here = here ++ out ∧ out.length = rs.length ∧ ∀ (i : Nat) (r : LRow), rs[i]? = some r → (here ++ out)[here.length + i]? = some (wordOf nm ((here ++ out).take (here.length + i)) below r)
  | [], here => ⟨[], by simp [wordsOf], rfl, fun i r h => by simp at h⟩
  | r :: rs, here => by
    obtain ⟨out, h1, h2, h3⟩ := wordsOf_spec rs (here ++ [wordOf nm here below r])
    have e : (here ++ [wordOf nm here below r]) ++ out = here ++ (wordOf nm here below r :: out) := by simp
    rw [e] at h1 h3
    refine ⟨wordOf nm here below r :: out, by rw [wordsOf]; exact h1, by simp [h2], fun i r' hr => ?_⟩
    cases i with
    | zero =>
      have e1 : r = r' := by simpa using hr
      subst e1
      simp
    | succ i =>
      have := h3 i r' (by simpa using hr)
      rw [List.length_append, List.length_singleton, show here.length + 1 + i = here.length + (i + 1) by omega] at this
      exact this
theorem words_len {nm : Nat → Option Str} {below : List Str} {rows : List LRow} : (wordsOf nm below rows []).length = rows.length := by
  obtain ⟨out, h1, h2, _⟩ := wordsOf_spec (nm := nm) (below := below) rows []
  rw [h1]; simpa using h2
theorem words_at {nm : Nat → Option Str} {below : List Str} {rows : List LRow} {j : Nat} {r : LRow} (h : rows[j]? = some r) : (wordsOf nm below rows []).getD j (Str.ofString "") = wordOf nm ((wordsOf nm below rows []).take j) below r := by
  obtain ⟨out, h1, h2, h3⟩ := wordsOf_spec (nm := nm) (below := below) rows []
  have := h3 j r h
  simp only [List.nil_append, List.length_nil, Nat.zero_add] at this h1
  rw [h1, List.getD_eq_getElem?_getD, this]; rfl
theorem take_getD {l : List Str} {j x : Nat} (h : x < j) : (l.take j).getD x (Str.ofString "") = l.getD x (Str.ofString "") := by
  rw [List.getD_eq_getElem?_getD, List.getD_eq_getElem?_getD, List.getElem?_take, if_pos h]

theorem map_some_mem {laid : List Nat} : ∀ {ps as : List Nat}, ps.map (fun j => laid[j]?) = as.map some → as.length = ps.length
  | [], [], _ => rfl
  | [], _ :: _, h => by simp at h
  | _ :: _, [], h => by simp at h
  | _ :: ps, _ :: as, h => by
    simp only [List.map_cons, List.cons.injEq] at h
    simp [map_some_mem h.2]
theorem showsL_of {R : List TRow} {nm : Nat → Option Str} {laid cs : List Nat} {l d : Nat} {src : List Str} : ∀ {ps as : List Nat}, ps.map (fun j => laid[j]?) = as.map some → (∀ x ∈ ps, ∀ y, laid[x]? = some y → Shows R nm y l (src.getD x (Str.ofString "")) (cs.getD x 0) d) → ShowsL R nm as l (innerOf src ps) (costOf cs ps) d
  | [], [], _, _ => .nil
  | [], _ :: _, h, _ => by simp at h
  | _ :: _, [], h, _ => by simp at h
  | p :: ps, a :: as, h, H => by
    simp only [List.map_cons, List.cons.injEq] at h
    exact .cons (H p (.head _) a h.1) (showsL_of h.2 fun x hx => H x (.tail _ hx))
theorem showsA_of {R : List TRow} {nm : Nat → Option Str} {laid cs : List Nat} {l d : Nat} {src : List Str} {low : Bool} {ps as : List Nat} (h : ps.map (fun j => laid[j]?) = as.map some) (H : ∀ x ∈ ps, ∀ y, laid[x]? = some y → Shows R nm y (l + 1) (src.getD x (Str.ofString "")) (cs.getD x 0) d)
    (hlow : low = true → 8 ≤ l) (hhigh : low = false → l < 8) : ShowsA R nm as l (listText (innerOf src ps) low) (costOf cs ps) d := by
  match ps, as with
  | [], [] => exact .nil
  | [], _ :: _ => simp at h
  | _ :: _, [] => simp at h
  | p :: ps, a :: as =>
    cases low with
    | true => exact .dots (hlow rfl)
    | false => exact .some (hhigh rfl) (showsL_of h H)
theorem ar_round {n : Nat} (h : n < 5) : isAround (roundSort n) ∧ arPre (roundSort n) = roundPre n ∧ arPost (roundSort n) = roundPost n := by
  rcases n with _ | _ | _ | _ | _ | n
  · exact ⟨.inl rfl, rfl, rfl⟩
  · exact ⟨.inr (.inl rfl), rfl, rfl⟩
  · exact ⟨.inr (.inr (.inl rfl)), rfl, rfl⟩
  · exact ⟨.inr (.inr (.inr (.inl rfl))), rfl, rfl⟩
  · exact ⟨.inr (.inr (.inr (.inr rfl))), rfl, rfl⟩
  · omega
theorem row_shows {s : LS} {cs : List Nat} {nm : Nat → Option Str} {l j k : Nat} {r : LRow} {here below : List Str} (I : Inv s cs) (hj : s.rows[j]? = some r) (hk : s.laid[j]? = some k)
    (hin : ∀ x < j, ∀ y, s.laid[x]? = some y → Shows s.R nm y l (here.getD x (Str.ofString "")) (cs.getD x 0) (x + 1))
    (hsrc : ∀ x < j, ∀ y, s.laid[x]? = some y → Shows s.R nm y (l + 1) ((srcOf here below).getD x (Str.ofString "")) (cs.getD x 0) (x + 1))
    (hlow : below.isEmpty = true → 8 ≤ l) (hhigh : below.isEmpty = false → l < 8) : Shows s.R nm k l (wordOf nm here below r) (cs.getD j 0) (j + 1) := by
  obtain ⟨k', hk', hst⟩ := I.st j r hj
  rw [hk] at hk'
  cases hk'
  have ok := I.ok j r hj
  have hc := ok.cost
  obtain ⟨c, hc9⟩ : ∃ c, cs.getD j 0 = c + 1 := ⟨cs.getD j 0 - 1, by omega⟩
  rw [hc9] at hc ⊢
  cases r with
  | word n =>
    obtain ⟨e, h1, h2⟩ := hst
    subst e
    exact .prim h2 h1
  | var n => exact .var hst ok.num
  | mvar n => exact .mvar hst ok.num
  | typ n ps =>
    obtain ⟨sx, as, h1, h2, h3⟩ := hst
    have hp : ∀ x ∈ ps, x < j := ok.parts
    have hA := showsA_of (nm := nm) (cs := cs) (l := l) (d := j) (src := srcOf here below) (low := below.isEmpty) h3 (fun x hx y hy => (hsrc x (hp x hx) y hy).up (Nat.le_refl _) (hp x hx)) hlow hhigh
    exact (Shows.named h2 h1 ok.num hA).up hc (Nat.le_refl _)
  | meth n ps =>
    obtain ⟨o, as, h2, h3⟩ := hst
    have hp : ∀ x ∈ ps, x < j := ok.parts
    cases ps with
    | nil => simp at h3
    | cons p ps =>
      simp only [List.map_cons, List.cons.injEq] at h3
      have hA := showsA_of (nm := nm) (cs := cs) (l := l) (d := j) (src := srcOf here below) (low := below.isEmpty) h3.2 (fun x hx y hy => (hsrc x (hp x (.tail _ hx)) y hy).up (Nat.le_refl _) (hp x (.tail _ hx))) hlow hhigh
      have hS := (hsrc p (hp p (.head _)) o h3.1).up (Nat.le_refl _) (show p + 1 ≤ j from hp p (.head _))
      have := Shows.ftn (l := l) h2 ok.num hS hA
      simp only [LRow.parts, costOf, List.map_cons, List.sum_cons] at hc
      exact this.up hc (Nat.le_refl _)
  | round n x =>
    obtain ⟨y, h2, h3⟩ := hst
    have hx : x < j := ok.parts x (.head _)
    obtain ⟨a1, a2, a3⟩ := ar_round ok.fits
    have := Shows.around h2 a1 (hin x hx y h3)
    rw [a2, a3] at this
    simp only [LRow.parts, costOf, List.map_cons, List.map_nil, List.sum_cons, List.sum_nil] at hc
    exact this.up (by omega) (by omega)

/-- the words after n rounds -/
def rounds (nm : Nat → Option Str) (rows : List LRow) : Nat → List Str
  | 0 => []
  | n + 1 => wordsOf nm (rounds nm rows n) rows []
theorem low_shows {s : LS} {cs : List Nat} {nm : Nat → Option Str} (I : Inv s cs) : ∀ (j k : Nat), j < s.rows.length → s.laid[j]? = some k → ∀ l, 8 ≤ l → Shows s.R nm k l ((rounds nm s.rows 1).getD j (Str.ofString "")) (cs.getD j 0) (j + 1) := by
  intro j
  induction j using Nat.strongRecOn with
  | _ j ih =>
    intro k hj hk l hl
    rw [show rounds nm s.rows 1 = wordsOf nm [] s.rows [] from rfl, words_at (List.getElem?_eq_getElem hj)]
    have hI : ∀ l', 8 ≤ l' → ∀ x < j, ∀ y, s.laid[x]? = some y → Shows s.R nm y l' (((wordsOf nm [] s.rows []).take j).getD x (Str.ofString "")) (cs.getD x 0) (x + 1) := fun l' hl' x hx y hy => by
      rw [take_getD hx]
      exact ih x hx y (by omega) hy l' hl'
    exact row_shows I (List.getElem?_eq_getElem hj) hk (hI l hl) (by rw [show srcOf ((wordsOf nm [] s.rows []).take j) [] = (wordsOf nm [] s.rows []).take j from rfl]; exact hI (l + 1) (by omega)) (fun _ => hl) (fun h => by cases h)
theorem round_shows {s : LS} {cs : List Nat} {nm : Nat → Option Str} (I : Inv s cs) (hne : 0 < s.rows.length) : ∀ (m : Nat), m ≤ 8 → ∀ (j k : Nat), j < s.rows.length → s.laid[j]? = some k → Shows s.R nm k (8 - m) ((rounds nm s.rows (m + 1)).getD j (Str.ofString "")) (cs.getD j 0) (j + 1) := by
  intro m
  induction m with
  | zero => intro _ j k hj hk; exact low_shows I j k hj hk 8 (Nat.le_refl _)
  | succ m ihm =>
    intro hm j
    induction j using Nat.strongRecOn with
    | _ j ih =>
      intro k hj hk
      have hb : (rounds nm s.rows (m + 1)).length = s.rows.length := words_len
      have hemp : (rounds nm s.rows (m + 1)).isEmpty = false := by
        cases e : rounds nm s.rows (m + 1) with
        | nil => rw [e] at hb; simp at hb; omega
        | cons a b => rfl
      rw [show rounds nm s.rows (m + 1 + 1) = wordsOf nm (rounds nm s.rows (m + 1)) s.rows [] from rfl, words_at (List.getElem?_eq_getElem hj)]
      refine row_shows I (List.getElem?_eq_getElem hj) hk (fun x hx y hy => ?_) (fun x hx y hy => ?_) (fun h => by rw [hemp] at h; cases h) (fun _ => by omega)
      · rw [take_getD hx]
        exact ih x hx y (by omega) hy
      · rw [show srcOf ((wordsOf nm (rounds nm s.rows (m + 1)) s.rows []).take j) (rounds nm s.rows (m + 1)) = rounds nm s.rows (m + 1) by unfold srcOf; rw [hemp]; rfl, show 8 - (m + 1) + 1 = 8 - m by omega]
        exact ihm (by omega) x y (by omega) hy
end Mine

-- H3_step
namespace Mine
open PySem.Spec PyProof.V PySem.Calls
structure StInv (s : LS) (cs : List Nat) (sp : List Nat) (K : Nat) : Prop where
  inv : Inv s cs
  four : 4 ≤ s.rows.length
  low : ∀ j < 4, cs.getD j 0 ≤ 1
  two : 2 ≤ sp.length
  sp : ∀ j ∈ sp, j < s.rows.length ∧ cs.getD j 0 ≤ K
theorem getD_old {cs l : List Nat} {j : Nat} (h : j < cs.length) : (cs ++ l).getD j 0 = cs.getD j 0 := by
  rw [List.getD_eq_getElem?_getD, List.getElem?_append_left h, ← List.getD_eq_getElem?_getD]
theorem getD_top {cs : List Nat} {c : Nat} : (cs ++ [c]).getD cs.length 0 = c := by
  rw [List.getD_eq_getElem?_getD]; simp
theorem lay_rows (s : LS) (r : LRow) : (s.lay r).rows.length = s.rows.length + 1 := by simp [LS.lay]
theorem stinv_lay {s : LS} {cs sp : List Nat} {K M : Nat} {r : LRow} (S : StInv s cs sp K) (hr : r.lays) (hp : ∀ j ∈ r.parts, j < s.rows.length) (hc : costOf cs r.parts + 1 ≤ M) (hM : M ≤ 400000) :
    StInv (s.lay r) (cs ++ [costOf cs r.parts + 1]) sp K ∧ (cs ++ [costOf cs r.parts + 1]).getD s.rows.length 0 ≤ M := by
  have l2 := S.inv.l2
  have h4 := S.four
  refine ⟨⟨inv_lay S.inv hr hp (by omega), by rw [lay_rows]; omega, fun j hj => ?_, S.two, fun j hj => ?_⟩, ?_⟩
  · rw [getD_old (by omega)]; exact S.low j hj
  · obtain ⟨h1, h2⟩ := S.sp j hj
    exact ⟨by rw [lay_rows]; omega, by rw [getD_old (by omega)]; exact h2⟩
  · rw [← l2, getD_top]; exact hc
theorem stinv_push {s : LS} {cs sp : List Nat} {K K' top : Nat} (S : StInv s cs sp K) (hK : K ≤ K') (h1 : top < s.rows.length) (h2 : cs.getD top 0 ≤ K') : StInv s cs (sp ++ [top]) K' :=
  ⟨S.inv, S.four, S.low, by simp; have := S.two; omega, fun j hj => by
    rcases List.mem_append.mp hj with h | h
    · exact ⟨(S.sp j h).1, Nat.le_trans (S.sp j h).2 hK⟩
    · rw [List.mem_singleton.mp h]; exact ⟨h1, h2⟩⟩
theorem cost1 {cs : List Nat} {x : Nat} : costOf cs [x] = cs.getD x 0 := by simp [costOf]
theorem cost2 {cs : List Nat} {x y : Nat} : costOf cs [x, y] = cs.getD x 0 + cs.getD y 0 := by simp [costOf]
theorem cost3 {cs : List Nat} {x y z : Nat} : costOf cs [x, y, z] = cs.getD x 0 + (cs.getD y 0 + cs.getD z 0) := by simp [costOf]
theorem getD_mem {sp : List Nat} {i : Nat} (h : i < sp.length) : sp.getD i 0 ∈ sp := by
  rw [List.getD_eq_getElem?_getD, List.getElem?_eq_getElem h]; exact List.getElem_mem h
theorem one_lay {s : LS} {cs sp : List Nat} {K : Nat} {r : LRow} (S : StInv s cs sp K) (hr : r.lays) (hp : ∀ j ∈ r.parts, j < s.rows.length) (hc : costOf cs r.parts + 1 ≤ 2 * K + 4) (hK : 2 * K + 4 ≤ 400000) :
    ∃ cs', StInv (s.lays [r]) cs' (sp ++ [(s.lays [r]).laid.length - 1]) (2 * K + 4) ∧ (s.lays [r]).rows.length ≤ s.rows.length + 2 ∧ (s.lays [r]).R.length ≤ s.R.length + 2 := by
  obtain ⟨S1, h1⟩ := stinv_lay S hr hp hc hK
  have e : (s.lays [r]).laid.length - 1 = s.rows.length := by show (s.laid ++ [_]).length - 1 = _; rw [← S.inv.l1]; simp
  rw [e]
  exact ⟨_, stinv_push S1 (by omega) (by show _ < (s.lay r).rows.length; rw [lay_rows]; omega) h1, by show (s.lay r).rows.length ≤ _; rw [lay_rows]; omega, by show (s.R ++ [_]).length ≤ _; simp⟩
theorem parts_cost {cs : List Nat} {k x y z m K : Nat} (h : k < 4) (hx : cs.getD x 0 ≤ K) (hy : cs.getD y 0 ≤ K) (hz : cs.getD z 0 ≤ K) (hm : cs.getD (2 + m) 0 ≤ 1) : costOf cs (partsOf k x y z m) + 1 ≤ 2 * K + 4 :=
  match k, h with
  | 0, _ => by show costOf cs [x] + 1 ≤ _; rw [cost1]; omega
  | 1, _ => by show costOf cs [x, y] + 1 ≤ _; rw [cost2]; omega
  | 2, _ => by show costOf cs [z, x] + 1 ≤ _; rw [cost2]; omega
  | 3, _ => by show costOf cs [x, 2 + m, y] + 1 ≤ _; rw [cost3]; omega
  | k + 4, h => absurd h (Nat.not_lt.mpr (Nat.le_add_left 4 k))
theorem m977 (n : Nat) : n % 977 < 1000 := Nat.lt_trans (Nat.mod_lt _ (by decide)) (by decide)
theorem m211 (n : Nat) : 30 + n % 211 < 1000 := Nat.lt_trans (Nat.add_lt_add_left (Nat.mod_lt _ (by decide)) 30) (by decide : 30 + 211 < 1000)
theorem m5 (n : Nat) : n % 5 < 5 := Nat.mod_lt _ (by decide)
theorem stepR_lays (n x y z len : Nat) : ∀ r ∈ stepR n x y z len, r.lays := by
  rcases step_ways n x y z len with h | h | h | h | h <;> rw [h.2]
  · exact fun r hr => List.mem_singleton.mp hr ▸ ⟨m977 _, (parts_all (P := fun _ => True) h.1 trivial trivial trivial trivial).2⟩
  · exact fun r hr => List.mem_singleton.mp hr ▸ ⟨m211 _, Nat.le_add_left 1 4⟩
  · exact fun r hr => List.mem_singleton.mp hr ▸ ⟨m211 _, Nat.le_add_left 2 3⟩
  · exact fun r hr => List.mem_singleton.mp hr ▸ m5 _
  · exact List.forall_mem_cons.mpr ⟨m5 _, fun r hr => List.mem_singleton.mp hr ▸ m5 _⟩
theorem kBound {K : Nat} (hK : 2 * K + 4 ≤ 400000) : K ≤ 2 * K + 4 ∧ K + 1 ≤ 2 * K + 4 ∧ K + 1 ≤ 400000 := by omega
theorem step_inv {s : LS} {cs sp : List Nat} {K n : Nat} (S : StInv s cs sp K) (hK : 2 * K + 4 ≤ 400000) :
    ∃ cs', StInv (stepS s sp n).1 cs' (stepS s sp n).2 (2 * K + 4) ∧ (stepS s sp n).1.rows.length ≤ s.rows.length + 2 ∧ (stepS s sp n).1.R.length ≤ s.R.length + 2 := by
  have h2 := S.two
  have h0 : 0 < sp.length := Nat.lt_of_lt_of_le (by decide) h2
  have hx := S.sp _ (getD_mem (Nat.sub_lt h0 (show 0 < 1 by decide)))
  have hy := S.sp _ (getD_mem (Nat.sub_lt h0 (show 0 < 2 by decide)))
  have hz := S.sp _ (getD_mem (Nat.mod_lt (n / 8 / 977) h0))
  have hm : 2 + n / 8 % 2 < 4 := Nat.add_lt_add_left (Nat.mod_lt _ (by decide)) 2
  have hlow := S.low _ hm
  have hm' := Nat.lt_of_lt_of_le hm S.four
  have hk := kBound hK
  unfold stepS
  dsimp only
  generalize sp.getD (sp.length - 1) 0 = x at hx
  generalize sp.getD (sp.length - 2) 0 = y at hy
  generalize sp.getD (n / 8 / 977 % sp.length) 0 = z at hz
  have c1 : costOf cs [x] + 1 ≤ K + 1 := by rw [cost1]; exact Nat.succ_le_succ hx.2
  have hl := stepR_lays n x y z s.laid.length
  rcases step_ways n x y z s.laid.length with h | h | h | h | h <;> (rw [h.2] at hl ⊢; clear h2 h0)
  · exact one_lay S (hl _ (.head _)) (parts_all (P := fun j => j < s.rows.length) h.1 hx.1 hy.1 hz.1 hm').1 (parts_cost h.1 hx.2 hy.2 hz.2 hlow) hK
  · exact one_lay S (hl _ (.head _)) (all1 (P := fun j => j < s.rows.length) hx.1) (Nat.le_trans c1 hk.2.1) hK
  · exact one_lay S (hl _ (.head _)) (all2 (P := fun j => j < s.rows.length) hy.1 hx.1) (parts_cost (k := 1) (z := y) (x := y) (y := x) (m := n / 8 % 2) (by decide) hy.2 hx.2 hy.2 hlow) hK
  · exact one_lay S (hl _ (.head _)) (all1 (P := fun j => j < s.rows.length) hx.1) (Nat.le_trans c1 hk.2.1) hK
  · obtain ⟨S1, g1⟩ := stinv_lay (r := .round (n / 8 % 5) x) (M := K + 1) S (hl _ (.head _)) (all1 (P := fun j => j < s.rows.length) hx.1) c1 hk.2.2
    have l1 := S.inv.l1
    have hr1 := lay_rows s (.round (n / 8 % 5) x)
    obtain ⟨S2, g2⟩ := stinv_lay (r := .round (n / 8 / 5 % 5) s.laid.length) (M := 2 * K + 4) S1 (hl _ (.tail _ (.head _))) (all1 (P := fun j => j < (s.lay (.round (n / 8 % 5) x)).rows.length) (by rw [hr1, l1]; exact Nat.lt_succ_self _)) (by
      show costOf _ [s.laid.length] + 1 ≤ _
      rw [cost1, l1]; omega) hK
    have e : (s.lays [.round (n / 8 % 5) x, .round (n / 8 / 5 % 5) s.laid.length]).laid.length - 1 = (s.lay (.round (n / 8 % 5) x)).rows.length := by
      rw [hr1, ← l1]
      exact (lay_last _ _).trans (len_snoc _ _)
    rw [e]
    exact ⟨_, stinv_push S2 hk.1 (by rw [show (s.lays [.round (n / 8 % 5) x, .round (n / 8 / 5 % 5) s.laid.length]).rows.length = _ from lay_rows _ _]; exact Nat.lt_succ_self _) g2, Nat.le_of_eq ((lay_rows _ _).trans (congrArg (· + 1) hr1)), Nat.le_of_eq ((len_snoc _ _).trans (congrArg (· + 1) (len_snoc _ _)))⟩
end Mine

end
theorem Mine.top_offNH1 : True := by w_top off; trivial
theorem Mine.turnNH1 {M : Model} {A : Around} {env : Env} {Q : Flow → Shared → Prop} {E : Value → Shared → Prop} {s : Shared} (h : Q .next s) : wpAny M A (execs [] env) Q E s := by walk1; exact h
section
-- J0_comp3
namespace Mine
open PySem.Spec PyProof.V PySem.Calls PyProof.Rows.LCg
section
variable {prog : Program} {w : World} {A : Around} {E : Value → Shared → Prop} {s : Shared} {h₀ : Heap} {L : Addr} {m : Str → Option Value} {env : Env} {elt iter : PySem.Expr} {x y z : Str} {scope : Scope} {cl : List (Str × Addr)}
/-- a comprehension that takes triples apart, over a list of the ledger -/
theorem m_comp3 {Q : Value → Shared → Prop} {px py pz tp : Pos} {tk9 : Nat} {pos : Pos} (_F₀ : Fr h₀ L s.heap m) (G : Nat → Value → Prop)
    (hclos : closureFor scope env = pure cl) (hcell : ∀ q ∈ scope.names, q.2 ≠ .cell) (hkind : scope.kind = .function)
    (hnames : ∀ q ∈ scope.names, q.2 = .local → scope.names.lookup q.1 = some .local) (hx : scope.names.lookup x = some .local) (hy : scope.names.lookup y = some .local) (hz : scope.names.lookup z = some .local) (hxy : x ≠ y) (hxz : x ≠ z) (hyz : y ≠ z)
    (hh : A.handled = none)
    (h : wpAny (model prog w) A (eval iter env) (fun xv s₁ => ∃ (ax : Addr) (its : Array Value) (k : Nat) (news : List (Addr × Obj)), xv = .ref ax ∧ Fr h₀ L s₁.heap m ∧ News h₀ L s₁.heap news ∧ (ax, ({ cls := .type "list", data := .seq its k } : Obj)) ∈ news ∧ its.size ≤ sizeLine ∧
      (∀ (i : Nat) (v : Value), its[i]? = some v → ∃ (t : Addr) (v₁ v₂ v₃ : Value) (nt : Nat), v = .ref t ∧ (t, tupOf [v₁, v₂, v₃] nt) ∈ news ∧
        ∀ I oI C oC D ys m₂ h tk (E' : Value → Shared → Prop), NsObj oC m₂ → m₂ x = some v₁ → m₂ y = some v₂ → m₂ z = some v₃ → Fr h₀ L h m → News h₀ L h ((I, oI) :: (C, oC) :: (D, lst ys) :: news) →
          wpAny (model prog w) A (eval elt (compEnvC scope cl C env)) (EltEnd h₀ L m { s₁ with heap := h, toks := tk } ((I, oI) :: (C, oC) :: (D, lst ys) :: news) (G i)) E' { s₁ with heap := h, toks := tk }) ∧
      ∀ D ys h tk, ys.length = its.size → (∀ i y, ys[i]? = some y → G i y) → Fr h₀ L h m → News h₀ L h ((D, lst ys) :: news) → (∀ p ∈ news, p.1 ≠ D) → Q (.ref D) { s₁ with heap := h, toks := tk }) E s)
    (hs : ∀ x, foldedSetIterable iter env x = pure x := by intro _; rfl) :
    wpAny (model prog w) A (eval (.ListComp elt [⟨.Tuple [.Name x px, .Name y py, .Name z pz] tk9 tp, iter, [], 0⟩] scope pos) env) Q E s := by
  rw [eval_ListComp]
  refine wpAny_comprehension_free (use := none) rfl hs hclos hkind hnames (wpAny_mono h (fun xv s₁ h₁ => ?_) fun _ _ e => e)
  obtain ⟨ax, its, k9, news, e9, F, N, hm, hsz, step, fin⟩ := h₁
  subst e9
  have hl : s₁.heap.IsList ax its := ⟨_, (N _ hm).1, rfl, k9, rfl⟩
  have hlt : ax < s₁.heap.objs.size := Heap.lt_size (N _ hm).1
  refine wpAny_pyIter_list hl ?_
  -- the iterator, the list, the frame of the comprehension
  generalize hH1 : s₁.heap.push { cls := .type "list_iterator", data := .fields #[.ref ax, .int 0 0] } = H1
  have zI : H1.objs.size = s₁.heap.objs.size + 1 := by rw [← hH1, Heap.size_push]
  refine wpAny_newObj_type (wpAny_newFunctionEnv hcell (by intro y hy; simp at hy) (fun hA hnsA hsbA => ?_) hkind)
  dsimp only at hnsA hsbA ⊢
  generalize hH2 : H1.push { cls := .type "list", dict := none, data := .seq ([] : List Value).toArray } = H2 at hnsA hsbA ⊢
  have zD : H2.objs.size = s₁.heap.objs.size + 2 := by rw [← hH2, Heap.size_push, zI]
  obtain ⟨I, hI⟩ : ∃ I : Addr, I = s₁.heap.objs.size := ⟨_, rfl⟩
  obtain ⟨D, hD⟩ : ∃ D : Addr, D = H1.objs.size := ⟨_, rfl⟩
  obtain ⟨C, hC⟩ : ∃ C : Addr, C = H2.objs.size := ⟨_, rfl⟩
  rw [← hD, ← hI]
  rw [← hC] at hnsA hsbA ⊢
  have nDI : D ≠ I := by rw [hD, hI, zI]; exact Nat.succ_ne_self _
  have nCI : C ≠ I := by rw [hC, hI, zD]; exact Nat.ne_of_gt (Nat.lt_add_of_pos_right (by decide))
  have nCD : C ≠ D := by rw [hC, hD, zD, zI]; exact Nat.succ_ne_self _
  have low : ∀ b, b < s₁.heap.objs.size → b ≠ I ∧ b ≠ D ∧ b ≠ C := fun b hb => ⟨by rw [hI]; exact Nat.ne_of_lt hb, by rw [hD, zI]; exact Nat.ne_of_lt (Nat.lt_succ_of_lt hb), by rw [hC, zD]; exact Nat.ne_of_lt (Nat.lt_succ_of_lt (Nat.lt_succ_of_lt hb))⟩
  have up1 : ∀ b o, s₁.heap.get? b = some o → H1.get? b = some o := fun b o e => by rw [← hH1]; exact Heap.get?_push_of_some _ e
  have up2 : ∀ b o, H1.get? b = some o → H2.get? b = some o := fun b o e => by rw [← hH2]; exact Heap.get?_push_of_some _ e
  have at1 : H1.get? I = some { cls := .type "list_iterator", data := .fields #[.ref ax, .int 0 0] } := by rw [← hH1, hI]; exact Heap.get?_push_size _ rfl
  have at2 : H2.get? D = some (lst []) := by rw [← hH2, hD]; exact Heap.get?_push_size _ rfl
  have old : ∀ b o, s₁.heap.get? b = some o → hA.get? b = some o := fun b o e => hsbA.extBut b o (low b (Heap.lt_size e)).2.2 (Heap.get?_push_of_some _ (up2 _ _ (up1 _ _ e)))
  have fresh : ∀ a, s₁.heap.objs.size ≤ a → h₀.get? a = none := fun a ha => by
    cases e : h₀.get? a with
    | none => rfl
    | some o' => exact absurd (Heap.lt_size (F.keep a o' e)) (Nat.not_lt.mpr ha)
  have I0 : h₀.get? I = none := fresh _ (by rw [hI]; exact Nat.le_refl _)
  have D0 : h₀.get? D = none := fresh _ (by rw [hD, zI]; exact Nat.le_succ _)
  have C0 : h₀.get? C = none := fresh _ (by rw [hC, zD]; exact Nat.le_add_right _ _)
  have hLI := low L F.ns.lt
  have offN : ∀ p ∈ news, p.1 ≠ I ∧ p.1 ≠ D ∧ p.1 ≠ C := fun p hp => low p.1 (Heap.lt_size (N p hp).1)
  have hax := low ax hlt
  have gI : hA.get? I = some { cls := .type "list_iterator", data := .fields #[.ref ax, .int 0 0] } := hsbA.extBut _ _ nCI.symm (Heap.get?_push_of_some _ (up2 _ _ at1))
  have gD : hA.get? D = some (lst []) := hsbA.extBut _ _ nCD.symm (Heap.get?_push_of_some _ at2)
  have W := Walks.list (prog := prog) (w := w) hh I ax hax.1 its
  have frame0 : hA.IsListIter I ax 0 ∧ hA.IsList ax its := ⟨⟨_, gI, rfl, rfl⟩, hl.at fun o e => old _ o e⟩
  have loop : ∀ s₃ : Shared, s₃ = { s₁ with heap := hA, toks := s₁.toks + ([] : List (Str × Value)).length } →
      codeAny (model prog w) A (.compLoop (.ListComp elt [⟨.Tuple [.Name x px, .Name y py, .Name z pz] tk9 tp, iter, [], 0⟩] scope pos) 0 (.ref I) (.ref D) (compEnvC scope cl C env)) (compPost (model prog w) A E none Q (.ref D) C) s₃ := by
    intro s₃ e₃
    subst e₃
    refine LCp.codeAny_compLoop_pair
      (fun k s' => ∃ h' tk i ys m', s' = { s₁ with heap := h', toks := tk } ∧ i ≤ its.size ∧ k = its.size + 1 - i ∧ ys.length = i ∧ (∀ j v, ys[j]? = some v → G j v) ∧ (h'.IsListIter I ax i ∧ h'.IsList ax its) ∧ Fr h₀ L h' m ∧ h'.Ns C m' ∧ News h₀ L h' ((D, lst ys) :: news)) ?_ (its.size + 1)
      ⟨hA, _, 0, [], _, rfl, Nat.zero_le _, rfl, rfl, fun j v e => by simp at e, frame0, F.keeps old, hnsA, fun p hp => ?_⟩
    · rintro k s' ⟨h', tk, i, ys, m', e', hi, hk, hyl, hG, hst, F', hn', N'⟩
      subst e'
      by_cases hlt' : i < its.size
      · refine W.item i _ _ _ hlt' hst fun v h₂ tk₂ hP hst₂ hk₂ => ?_
        obtain ⟨t, v₁, v₂, v₃, nt, ev, hmt, hgo⟩ := step i v hP
        subst ev
        have N₂ : News h₀ L h₂ ((D, lst ys) :: news) := news_but N' hk₂ fun p hp => by
          rcases List.mem_cons.mp hp with e | hp
          · rw [e]; exact nDI
          · exact (offN p hp).1
        have ht : IsTup h₂ t #[v₁, v₂, v₃] := ⟨_, (N₂ _ (.tail _ hmt)).1, rfl, nt, rfl⟩
        refine wpAny_letOwnedTupleGo_listiter hst₂.1 ?_
        refine assign_Tuple_tuple hh ht rfl rfl fun h₅ he => ?_
        have he' : ∀ b o, h₂.get? b = some o → h₅.get? b = some o := fun b o e => he b o (Nat.ne_of_lt (Heap.lt_size e)) e
        have hp9 : ((compEnvC scope cl C env).scope.kind == .class || ((compEnvC scope cl C env).scope.kind == .module && (compEnvC scope cl C env).locals != (compEnvC scope cl C env).globals)) = false := by simp [compEnvC, relabel, hkind]
        have hn5 := (hn'.at' fun o e => hk₂ _ o (by simpa using nCI) e).at' fun o e => he' _ o e
        refine assignInOrder_cons (wpAny_assign_Name (wpAny_storeName_local (lookup_relabel_local hx) hn5 (fun h₆ hn₆ hs₆ => ?_) hp9))
        refine assignInOrder_cons (wpAny_assign_Name (wpAny_storeName_local (lookup_relabel_local hy) hn₆ (fun h₇ hn₇ hs₇ => ?_) hp9))
        refine assignInOrder_cons (wpAny_assign_Name (wpAny_storeName_local (lookup_relabel_local hz) hn₇ (fun h₈ hn₈ hs₈ => ?_) hp9))
        refine assignInOrder_nil ?_
        have up : ∀ b o, b ≠ C → h₂.get? b = some o → h₈.get? b = some o := fun b o hb e => hs₈.extBut b o hb (hs₇.extBut b o hb (hs₆.extBut b o hb (he' b o e)))
        obtain ⟨oI, eI, cI, dI⟩ := hst₂.1
        have eI8 := up _ _ nCI.symm eI
        obtain ⟨oC, eC, kC⟩ := ns_obj hn₈
        have F₈ : Fr h₀ L h₈ m := ((((fr_but F' hk₂ hLI.1 I0).keeps he').change hs₆ hLI.2.2.symm C0).change hs₇ hLI.2.2.symm C0).change hs₈ hLI.2.2.symm C0
        have N₈ : News h₀ L h₈ ((I, oI) :: (C, oC) :: (D, lst ys) :: news) := fun p hp => by
          rcases List.mem_cons.mp hp with e | hp
          · rw [e]; exact ⟨eI8, hLI.1.symm, I0⟩
          · rcases List.mem_cons.mp hp with e | hp
            · rw [e]; exact ⟨eC, hLI.2.2.symm, C0⟩
            · refine ⟨up _ _ ?_ (N₂ p hp).1, (N₂ p hp).2⟩
              rcases List.mem_cons.mp hp with e | hp
              · rw [e]; exact nCD.symm
              · exact (offN p hp).2.2
        refine wpAny_mono (hgo I oI C oC D ys _ h₈ _ _ kC (by simp [hxy, hxz]) (by simp [hyz]) (by simp) F₈ N₈) (fun v₄ s₄ q => ?_) fun _ _ e => e
        obtain ⟨gy, h₄, tk₄, all, e₄, F₄, N₄, sub⟩ := q
        subst e₄
        have zI4 := (N₄ _ (sub _ (.head _))).1
        have zC4 := (N₄ _ (sub _ (.tail _ (.head _)))).1
        have zD4 := (N₄ _ (sub _ (.tail _ (.tail _ (.head _))))).1
        have zN4 : News h₀ L h₄ news := fun p hp => N₄ p (sub _ (.tail _ (.tail _ (.tail _ hp))))
        refine append_at (hsz := by show ys.toArray.size ≤ sizeLine; rw [List.size_toArray, hyl]; exact Nat.le_trans hi hsz) zD4 fun h₉ hs₉ hD₉ => ?_
        refine ⟨its.size + 1 - (i + 1), by omega, h₉, tk₄, i + 1, ys ++ [v₄], _, rfl, hlt', rfl, by simp [hyl], ?_, ⟨⟨oI, hs₉.extBut _ _ nDI.symm zI4, cI, dI⟩, ⟨_, hs₉.extBut _ _ hax.2.1 (zN4 _ hm).1, rfl, k9, rfl⟩⟩, F₄.change hs₉ hLI.2.1.symm D0, (kC.ns zC4).sameBut hs₉ nCD, ?_⟩
        · intro j v hv
          by_cases hj : j < ys.length
          · rw [List.getElem?_append_left hj] at hv; exact hG j v hv
          · have hj9 := (List.getElem?_eq_some_iff.mp hv).1
            rw [List.length_append, List.length_singleton] at hj9
            have ej : j = i := by omega
            subst ej
            rw [← hyl, List.getElem?_append_right (Nat.le_refl _)] at hv
            simp at hv
            rw [← hv]; exact gy
        · intro p hp
          rcases List.mem_cons.mp hp with e | hp
          · rw [e]; exact ⟨hD₉.trans (congrArg some (lst_snoc ys v₄)), hLI.2.1.symm, D0⟩
          · exact ⟨hs₉.extBut _ _ (offN p hp).2.1 (zN4 p hp).1, (N p hp).2⟩
      · have e9 : i = its.size := Nat.le_antisymm hi (Nat.not_lt.mp hlt')
        subst e9
        refine W.done _ _ _ hst fun h₂ tk₂ hk₂ => ?_
        refine ⟨m', hn'.at' fun o e => hk₂ _ o (by simpa using nCI) e, fun h₃ hs₃ => fin D ys h₃ tk₂ hyl hG ((fr_but F' hk₂ hLI.1 I0).change hs₃ hLI.2.2.symm C0) (fun p hp => ?_) fun p hp => (offN p hp).2.1⟩
        have offp : p.1 ≠ I ∧ p.1 ≠ C := by
          rcases List.mem_cons.mp hp with e | hp
          · rw [e]; exact ⟨nDI, nCD.symm⟩
          · exact ⟨(offN p hp).1, (offN p hp).2.2⟩
        exact ⟨hs₃.extBut _ _ offp.2 (hk₂ _ _ (by simpa using offp.1) (N' p hp).1), (N' p hp).2⟩
    · rcases List.mem_cons.mp hp with e | hp
      · rw [e]; exact ⟨gD, hLI.2.1.symm, D0⟩
      · exact ⟨old _ _ (N p hp).1, (N p hp).2⟩
  exact codeAny_compStart_list (loop _ rfl) (W.self 0 _ _ _ frame0 (loop _ rfl))
end
end Mine

end
theorem Mine.top_offNJC : True := by w_top off; trivial
theorem Mine.turnNJC {M : Model} {A : Around} {env : Env} {Q : Flow → Shared → Prop} {E : Value → Shared → Prop} {s : Shared} (h : Q .next s) : wpAny M A (execs [] env) Q E s := by walk1; exact h
section
-- J0_slice
namespace Mine
open PySem.Spec PyProof.V PySem.Calls
section
variable {prog : Program} {w : World} {A : Around} {E : Value → Shared → Prop} {s : Shared}
theorem getItem_tuple_all {t sl : Addr} {items : Array Value} {u : Tok} {Q : Value → Shared → Prop} (ht : IsTup s.heap t items) (hs : s.heap.IsSliceOf sl (.int ((0 : Nat) : Int) u) .none .none) (h : Q (.ref t) s) :
    wpAny (model prog w) A (getItem (.ref t) (.ref sl)) Q E s := by
  obtain ⟨os, hos, hcs, hds⟩ := id hs
  have hTs : s.TypeIs (.ref sl) "slice" := ⟨os, hos, hcs⟩
  unfold getItem
  try with_reducible refine wpAny_holding ?_
  first | refine wpAny_bind (wpAny_pure ?_) | skip
  refine wpAny_bind (wpAny_sequenceKey ht.typeIs (by decide) ?_)
  refine wpAny_bind (wpAny_callSpecial?_slot (name := Str.ofString "__getitem__") ht.typeIs slot_tuple_getitem
    (wpAny_call_entry slot_tuple_getitem ht.typeIs entry_tuple_getitem ?_ (args_tuple_getitem _ _)))
  show wpAny _ _ (Builtin.Tuple.tupleItemsOf (.ref t) >>= _) _ _ s
  refine wpAny_bind (tupleItemsOf_ ht ?_)
  refine wpAny_bind (wpAny_typeOf hTs ?_)
  rw [if_pos (by decide)]
  refine wpAny_bind (sliceApplied_from hs (Nat.zero_le _) ?_)
  show wpAny _ _ (if (((0 : Nat) : Int) == 0 && (1 : Int) == 1 && (items.size - 0) == items.size) = true then _ else _) _ _ s
  rw [if_pos (by simp)]
  unfold Builtin.Tuple.tupleIsExact
  first
    | refine wpAny_bind (wpAny_bind (wpAny_typeOf ht.typeIs (wpAny_pure ?_)))
    | refine wpAny_bind (wpAny_typeOf ht.typeIs ?_)
  show wpAny _ _ (if _ = true then _ else _) _ _ s
  rw [if_pos (by decide)]
  exact wpAny_bind (wpAny_rule (wpAny_pure ⟨_, rfl, wpAny_pure h⟩))
end
section
variable {prog : Program} {w : World} {A : Around} {E : Value → Shared → Prop} {s : Shared} {h₀ : Heap} {L l : Addr} {m : Str → Option Value} {news : List (Addr × Obj)} {value slice : PySem.Expr} {Q : Value → Shared → Prop}
theorem m_sliceTA {vs : List Value} {n a : Nat} {k : Int} {u : Tok} (F : Fr h₀ L s.heap m) (N : News h₀ L s.heap news) (hm : (l, tupOf vs n) ∈ news) (hz : vs.length ≤ 16000) (e : k = (a : Int)) (ha : a ≤ vs.length)
    (h : ∀ D h' n', Fr h₀ L h' m → (∃ news', News h₀ L h' news' ∧ (D, tupOf (vs.drop a) n') ∈ news' ∧ ∀ p ∈ news, p ∈ news') → Q (.ref D) { s with heap := h' })
    (hs : subscripted slice false (.ref l) (.ref s.heap.objs.size) = operate [.ref s.heap.objs.size, .ref l] (getItem (.ref l) (.ref s.heap.objs.size))) (ht : ∀ r, letTemporaryGo value (.ref l) r = pure ()) :
    wpAny (model prog w) A (subscriptTail value slice (.ref l) (.ref s.heap.objs.size)) Q E { s with heap := s.heap.push { cls := .type "slice", data := .fields #[.int k u, .none, .none] } } := by
  subst e
  have hl : IsTup s.heap l vs.toArray := ⟨_, (N _ hm).1, rfl, n, rfl⟩
  by_cases h1 : 1 ≤ a
  · exact slice_tuple_from F N hl h1 (by simpa using ha) (fun h' F' N' => h _ h' 0 F' ⟨_, by simpa using N', .head _, fun p hp => .tail _ hp⟩) hs ht (by have : sizeLine = 16777216 := rfl; simp; omega)
  · have h0 : a = 0 := by omega
    subst h0
    have ht' : IsTup (s.heap.push { cls := .type "slice", data := .fields #[.int ((0 : Nat) : Int) u, .none, .none] }) l vs.toArray := hl.keeps fun _ _ e => Heap.get?_push_of_some _ e
    refine subscriptTail_ops (s := { s with heap := s.heap.push { cls := .type "slice", data := .fields #[.int ((0 : Nat) : Int) u, .none, .none] } }) ht'.typeIs slot_tuple_getitem.lookup
      (getItem_tuple_all ht' (Heap.IsSliceOf.new ..) ?_) hs ht
    exact h l _ n (F.push _) ⟨news, N.grown fun _ _ e => Heap.get?_push_of_some _ e, by simpa using hm, fun p hp => hp⟩
end
end Mine
namespace Mine
open PySem.Spec PyProof.V PySem.Calls PyProof.Rows.LCg
section
variable {prog : Program} {w : World} {A : Around} {E : Value → Shared → Prop} {s : Shared} {h₀ : Heap} {L : Addr} {m : Str → Option Value} {env : Env} {elt iter : PySem.Expr} {x : Str} {scope : Scope} {cl : List (Str × Addr)}
/-- a comprehension over a tuple of the ledger -/
theorem m_compX {Q : Value → Shared → Prop} (_F₀ : Fr h₀ L s.heap m) (G : Nat → Value → Prop)
    (hclos : closureFor scope env = pure cl) (hcell : ∀ z ∈ scope.names, z.2 ≠ .cell) (hkind : scope.kind = .function)
    (hnames : ∀ z ∈ scope.names, z.2 = .local → scope.names.lookup z.1 = some .local) (hx : scope.names.lookup x = some .local)
    (hh : A.handled = none)
    (h : wpAny (model prog w) A (eval iter env) (fun xv s₁ => ∃ (ax : Addr) (its : Array Value) (k : Nat) (news : List (Addr × Obj)), xv = .ref ax ∧ Fr h₀ L s₁.heap m ∧ News h₀ L s₁.heap news ∧ (ax, ({ cls := .type "tuple", data := .seq its k } : Obj)) ∈ news ∧ its.size ≤ sizeLine ∧
      (∀ i v I oI C oC D ys m₂ h tk (E' : Value → Shared → Prop), its[i]? = some v → NsObj oC m₂ → m₂ x = some v → Fr h₀ L h m → News h₀ L h ((I, oI) :: (C, oC) :: (D, lst ys) :: news) →
        wpAny (model prog w) A (eval elt (compEnvC scope cl C env)) (EltEnd h₀ L m { s₁ with heap := h, toks := tk } ((I, oI) :: (C, oC) :: (D, lst ys) :: news) (G i)) E' { s₁ with heap := h, toks := tk }) ∧
      ∀ D ys h tk, ys.length = its.size → (∀ i y, ys[i]? = some y → G i y) → Fr h₀ L h m → News h₀ L h ((D, lst ys) :: news) → (∀ p ∈ news, p.1 ≠ D) → Q (.ref D) { s₁ with heap := h, toks := tk }) E s)
    (hs : ∀ x, foldedSetIterable iter env x = pure x := by intro _; rfl) :
    wpAny (model prog w) A (eval (.ListComp elt [⟨.Name x px, iter, [], 0⟩] scope pos) env) Q E s := by
  rw [eval_ListComp]
  refine wpAny_comprehension_free (use := none) rfl hs hclos hkind hnames (wpAny_mono h (fun xv s₁ h₁ => ?_) fun _ _ e => e)
  obtain ⟨ax, its, k, news, e9, F, N, hm, hsz, step, fin⟩ := h₁
  subst e9
  have hl : s₁.heap.IsTuple ax its := ⟨_, (N _ hm).1, rfl, k, rfl⟩
  have hlt : ax < s₁.heap.objs.size := Heap.lt_size (N _ hm).1
  refine wpAny_pyIter_tuple hl ?_
  refine block_U (Fin := FinE h₀ L m s₁ Q) (S := fun nw => (ax, ({ cls := .type "tuple", data := .seq its k } : Obj)) ∈ nw) (Walks.tuple hh s₁.heap.objs.size ax (Nat.ne_of_lt hlt) its) hsz (fun i h st => by obtain ⟨o, e, _⟩ := st.1; exact ⟨o, e⟩) tup_st hcell hkind hx ⟨⟨_, Heap.get?_push_size _ rfl, rfl, rfl⟩, hl.push _⟩ (fun b hb => ?_)
    (F.keeps fun b o e => Heap.get?_push_of_some _ e) (N.grown fun b o e => Heap.get?_push_of_some _ e) (Nat.ne_of_lt F.ns.lt) (next_is_new F) (fun p hp => Nat.ne_of_lt (Heap.lt_size (N p hp).1)) hm
    (comp_pure G hm (fun i v I oI C oC D ys m₂ h tk E' _ hP hC hx F₁ N₁ => step i v I oI C oC D ys m₂ h tk E' hP hC hx F₁ N₁) (fun ys hlen hg D h tk F₁ N₁ o1 => fin D ys h tk hlen hg F₁ N₁ (off1_mem o1))) ?_
  · show b < (s₁.heap.push _).objs.size
    rw [Heap.size_push]
    rcases List.mem_cons.mp hb with rfl | hb
    · exact Nat.lt_succ_self _
    · rw [List.mem_singleton.mp hb]; exact Nat.lt_succ_of_lt hlt
  · intro D C h' tk m' ys news' F' N' o1 hn hC₀ hD₀ hCL hDL hCD offC fin
    refine ⟨m', hn, fun h₃ hs₃ => fin D h₃ tk (F'.change hs₃ hCL hC₀) (fun p hp => ⟨hs₃.extBut _ _ ?_ (N' p hp).1, (N' p hp).2⟩) o1⟩
    rcases List.mem_cons.mp hp with rfl | hp
    · exact fun q => hCD q.symm
    · exact offC p hp
end
end Mine

-- J0_v
namespace Mine
open PySem.Spec PyProof.V PySem.Calls
def tailN : List Nat := [543, 449, 39, 514, 40, 277, 896, 241, 143, 7808, 23490, 800, 284, 57, 1691, 38, 5120, 97]
/-- the law's numbers -/
def VN (ns : List Int) : List Nat := ((ns.take 18).map fun k => (k.fmod 99991).toNat) ++ tailN.drop (ns.take 18).length
theorem VN_len (ns : List Int) : (VN ns).length = 18 := by
  unfold VN
  have h : tailN.length = 18 := rfl
  simp only [List.length_append, List.length_map, List.length_drop, List.length_take, h]
  omega
theorem VN_lt (ns : List Int) : ∀ n ∈ VN ns, n < 100000 := by
  intro n hn
  rcases List.mem_append.mp hn with h | h
  · obtain ⟨k, _, e⟩ := List.mem_map.mp h
    rw [← e, Int.fmod_eq_emod_of_nonneg _ (by decide)]
    omega
  · have := List.mem_of_mem_drop h
    have all : ∀ n ∈ tailN, n < 100000 := by decide
    exact all n this
theorem fmod_ints : ∀ {ys : List Value} {ks : List Int}, IntsAre ys (ks.map fun k => k.fmod 99991) → IntsAre ys (zs (ks.map fun k => (k.fmod 99991).toNat))
  | _, [], h => h
  | _, k :: ks, h => by
    obtain ⟨t, vs', e, h'⟩ := IntsAre.cons_inv h
    subst e
    have e9 : (((k.fmod 99991).toNat : Nat) : Int) = k.fmod 99991 := by
      have : 0 ≤ k.fmod 99991 := by rw [Int.fmod_eq_emod_of_nonneg _ (by decide)]; omega
      omega
    show IntsAre _ ((((k.fmod 99991).toNat : Nat) : Int) :: zs (ks.map fun k => (k.fmod 99991).toNat))
    rw [e9]
    exact .cons _ _ (fmod_ints h')
theorem tail_ints {t0 t1 t2 t3 t4 t5 t6 t7 t8 t9 t10 t11 t12 t13 t14 t15 t16 t17 : Tok} :
    IntsAre [.int 543 t0, .int 449 t1, .int 39 t2, .int 514 t3, .int 40 t4, .int 277 t5, .int 896 t6, .int 241 t7, .int 143 t8, .int 7808 t9, .int 23490 t10, .int 800 t11, .int 284 t12, .int 57 t13, .int 1691 t14, .int 38 t15, .int 5120 t16, .int 97 t17] (zs tailN) :=
  .cons _ _ (.cons _ _ (.cons _ _ (.cons _ _ (.cons _ _ (.cons _ _ (.cons _ _ (.cons _ _ (.cons _ _ (.cons _ _ (.cons _ _ (.cons _ _ (.cons _ _ (.cons _ _ (.cons _ _ (.cons _ _ (.cons _ _ (.cons _ _ .nil)))))))))))))))))
theorem tail_of {h₀ h : Heap} {L l : Addr} {n : Nat} {q : Addr × Obj} {rest : List (Addr × Obj)} {t0 t1 t2 t3 t4 t5 t6 t7 t8 t9 t10 t11 t12 t13 t14 t15 t16 t17 : Tok} (_N : News h₀ L h (q :: (l, tupOf [.int 543 t0, .int 449 t1, .int 39 t2, .int 514 t3, .int 40 t4, .int 277 t5, .int 896 t6, .int 241 t7, .int 143 t8, .int 7808 t9, .int 23490 t10, .int 800 t11, .int 284 t12, .int 57 t13, .int 1691 t14, .int 38 t15, .int 5120 t16, .int 97 t17] n) :: rest)) :
    IntsAre [.int 543 t0, .int 449 t1, .int 39 t2, .int 514 t3, .int 40 t4, .int 277 t5, .int 896 t6, .int 241 t7, .int 143 t8, .int 7808 t9, .int 23490 t10, .int 800 t11, .int 284 t12, .int 57 t13, .int 1691 t14, .int 38 t15, .int 5120 t16, .int 97 t17] (zs tailN) := tail_ints
theorem zs_drop (l : List Nat) (a : Nat) : (zs l).drop a = zs (l.drop a) := by simp [zs, List.map_drop]
theorem zs_app (a b : List Nat) : zs (a ++ b) = zs a ++ zs b := by simp [zs]
theorem VN_ints {ys us : List Value} {ns : List Int} (h : IntsAre ys ((ns.take 18).map fun k => k.fmod 99991)) (h' : IntsAre us (zs (tailN.drop (ns.take 18).length))) : IntsAre (ys ++ us) (zs (VN ns)) := by
  unfold VN
  rw [zs_app]
  exact (fmod_ints h).append h'
end Mine
namespace Mine
open PySem.Spec PyProof.V PySem.Calls
section
variable {prog : Program} {w : World} {A : Around} {E : Value → Shared → Prop} {s : Shared} {h₀ : Heap} {L l : Addr} {m : Str → Option Value} {news : List (Addr × Obj)} {value slice : PySem.Expr} {Q : Value → Shared → Prop}
/-- a slice of a list of numbers -/
theorem m_sliceL {vs : List Value} {ns : List Nat} {n a b : Nat} {k1 k2 : Int} {u1 u2 : Tok} (F : Fr h₀ L s.heap m) (N : News h₀ L s.heap news) (hm : (l, W.listOf vs.toArray n) ∈ news) (hi : IntsAre vs (zs ns)) (e1 : k1 = (a : Int)) (e2 : k2 = (b : Int)) (hz : ns.length ≤ 16384)
    (h : ∀ D ws h', Fr h₀ L h' m → News h₀ L h' ((D, W.listOf (List.toArray ws) 0) :: news) → (∀ p ∈ news, p.1 < D) → IntsAre ws (zs ((ns.drop a).take (min b ns.length - a))) → Q (.ref D) { s with heap := h' })
    (hs : subscripted slice false (.ref l) (.ref s.heap.objs.size) = operate [.ref s.heap.objs.size, .ref l] (getItem (.ref l) (.ref s.heap.objs.size))) (ht : ∀ r, letTemporaryGo value (.ref l) r = pure ()) :
    wpAny (model prog w) A (subscriptTail value slice (.ref l) (.ref s.heap.objs.size)) Q E { s with heap := s.heap.push { cls := .type "slice", data := .fields #[.int k1 u1, .int k2 u2, .none] } } := by
  subst e1 e2
  have hl := hi.length
  simp only [zs, List.length_map] at hl
  have hr := kmk_run (x := (a : Int)) (y := (b : Int)) hi (by omega) (by omega)
  refine kmk_slice_ints F N ⟨_, (N _ hm).1, rfl, n, rfl⟩ (.int _ _) (.int _ _) hi hr rfl (fun D ws h' F' N' l1 hi' _ _ => h D ws h' F' N' l1 ?_) hs ht (by have : sizeLine = 16777216 := rfl; rw [List.size_toArray]; omega)
  have e : (zs ns).length = ns.length := by simp [zs]
  rw [e, Int.toNat_natCast, Int.toNat_natCast] at hi'
  simpa [zs, List.map_take, List.map_drop] using hi'
end
end Mine

end
theorem Mine.top_offNJ0 : True := by w_top off; trivial
theorem Mine.turnNJ0 {M : Model} {A : Around} {env : Env} {Q : Flow → Shared → Prop} {E : Value → Shared → Prop} {s : Shared} (h : Q .next s) : wpAny M A (execs [] env) Q E s := by walk1; exact h
section
-- J2_plain
namespace Mine
open PySem.Spec PyProof.V PySem.Calls
/-- at most five arguments -/
def Few : TRow → Prop
  | .two .. => True
  | .three _ _ as => as.length ≤ 5
  | .four _ _ as => as.length ≤ 5
def FewR (R : List TRow) : Prop := ∀ (k : Nat) (r : TRow), R[k]? = some r → Few r
theorem Small.few {r : TRow} (h : Small r) : Few r := by
  cases r with
  | two s x => trivial
  | three s t as => exact Nat.le_trans h (by decide)
  | four o n as => exact Nat.le_trans h (by decide)
theorem FewR.grow {R R' : List TRow} (h : FewR R) (g : Grow R R') : FewR R' := fun k r e => (g k r e).elim (h k r) Small.few
theorem few_lay {laid : List Nat} {r : LRow} (hr : r.lays) : Few (layR laid r) := by
  cases r with
  | word n => exact hr.elim
  | var n => exact hr.elim
  | mvar n => exact hr.elim
  | typ n ps => show (ps.map _).length ≤ 5; rw [List.length_map]; exact hr.2
  | meth n ps =>
    show (ps.map _).tail.length ≤ 5
    rw [List.length_tail, List.length_map]
    exact Nat.le_trans (Nat.sub_le _ _) hr.2.2
  | round n x => trivial
theorem FewR.lay {s : LS} {r : LRow} (h : FewR s.R) (hr : r.lays) : FewR (s.lay r).R := fun k r' e => by
  rcases get_snoc (show (s.R ++ [layR s.laid r])[k]? = some r' from e) with h1 | ⟨_, h1⟩
  · exact h k r' h1
  · rw [h1]; exact few_lay hr
theorem FewR.lays {rs : List LRow} : ∀ {s : LS}, FewR s.R → (∀ r ∈ rs, r.lays) → FewR (s.lays rs).R := by
  induction rs with
  | nil => exact fun h _ => h
  | cons r rs ih => exact fun {s} h hr => ih (s := s.lay r) (h.lay (hr r (.head _))) fun r' h' => hr r' (.tail _ h')
theorem step_few {s : LS} {sp : List Nat} {n : Nat} (h : FewR s.R) : FewR (stepS s sp n).1.R := h.lays (stepR_lays _ _ _ _ _)
def kOf : Nat → Nat
  | 0 => 1
  | i + 1 => 2 * kOf i + 4
theorem kOf_le {i : Nat} (h : i < 14) : 2 * kOf i + 4 ≤ 400000 := by
  have all : ∀ i < 14, 2 * kOf i + 4 ≤ 400000 := by decide
  exact all i h

/-- the loop over the leaves -/
structure LeafSt (w : World) (T : KtA) (laidA lrowsA : Addr) (base : List (Addr × Obj)) (i : Nat) (s : LS) (vs lv : List Value) (n1 n2 : Nat) (news : List (Addr × Obj)) : Prop where
  inv : Inv s (List.replicate i 1)
  len : s.rows.length = i
  hR : s.R.length ≤ 16 + i
  few : FewR s.R
  tab : KTOk w T s.R news
  m1 : (laidA, W.listOf vs.toArray n1) ∈ news
  is_ : IntsAre vs (zs s.laid)
  m2 : (lrowsA, W.listOf lv.toArray n2) ∈ news
  rows : LRowsIn news lv s.rows
  keep : ∀ p ∈ base, p ∈ news
inductive LeafJ (w : World) (T : KtA) (laidA lrowsA : Addr) (base : List (Addr × Obj)) (i : Nat) (vals : List Value) (news : List (Addr × Obj)) : Prop
  | mk (e : vals = []) (s : LS) (vs lv : List Value) (n1 n2 : Nat) (st : LeafSt w T laidA lrowsA base i s vs lv n1 n2 news) : LeafJ w T laidA lrowsA base i vals news
theorem replicate_snoc (i : Nat) : List.replicate (i + 1) 1 = List.replicate i 1 ++ [1] := by
  rw [List.replicate_succ']
/-- a contract, its pre and post taken out -/
theorem c_leafS {w : World} {T : KtA} {laidA lrowsA : Addr} {base news0 : List (Addr × Obj)} {i : Nat} {s : LS} {vs lv : List Value} {n n1 n2 : Nat} {tn : Tok} (S : LeafSt w T laidA lrowsA base i s vs lv n1 n2 news0) (hi : i < 4) (ol : T.Off laidA) (or : T.Off lrowsA) (hne : laidA ≠ lrowsA) :
    Ctl w (.ref 271) [.ref T.kt, .ref laidA, .ref lrowsA, .int (n : Int) tn] 70 1400 (fun news => ∀ p ∈ news0, p ∈ news) (fun news r news' => r = .none ∧ LeafPost w T s.R laidA lrowsA vs lv n news .none news') :=
  have hl : lv.length = i := S.rows.1.trans S.len
  have hv : vs.length = i := (ints_len S.is_).trans (S.inv.l1.trans S.len)
  (c_leaf (n1 := n1) (n2 := n2) (by have := S.hR; omega) (by omega) (by omega) ol or hne).wk (fun _ hs => ⟨S.tab.mono' hs, hs _ S.m1, hs _ S.m2⟩) (Nat.le_refl _) (Nat.le_refl _) fun _ _ _ _ p => ⟨p.1, rfl, p.2⟩
theorem leaf_turn {w : World} {T : KtA} {laidA lrowsA I : Addr} {it : Obj} {c : String} {base news news' : List (Addr × Obj)} {h₀ h h' : Heap} {L : Addr} {s : LS} {vs lv : List Value} {n1 n2 i n : Nat} {r : Value}
    (N : News h₀ L h ((I, it) :: news)) (N' : News h₀ L h' news') (hc : it.cls = .type c) (c1 : c ≠ "tuple") (c2 : c ≠ "dict") (hoff : ∀ p ∈ news, p.1 ≠ I)
    (S : LeafSt w T laidA lrowsA base i s vs lv n1 n2 news) (hbT : ∀ p ∈ base, T.Off p.1) (hb1 : ∀ p ∈ base, p.1 ≠ laidA) (hb2 : ∀ p ∈ base, p.1 ≠ lrowsA) (P : LeafPost w T s.R laidA lrowsA vs lv n ((I, it) :: news) r news') :
    LeafJ w T laidA lrowsA base (i + 1) [] (offI I news') ∧ (I, it) ∈ news' ∧ ∀ p ∈ base, p ∈ news' := by
  obtain ⟨_, R', k, t, v, m1, m2, hK', hx, hl', hg, g1, g2, g3, g4, g5⟩ := P
  have hTI : T.Off I := ktok_neOff S.tab hoff
  have oI1 : laidA ≠ I := hoff _ S.m1
  have oI2 : lrowsA ≠ I := hoff _ S.m2
  have hIt : (I, it) ∈ news' := g5 _ (.head _) hTI oI1.symm oI2.symm
  have hs : ∀ p ∈ news', p.1 ≠ I → p ∈ offI I news' := fun p hp hn => mem_offI.mpr ⟨hp, hn⟩
  have hbase : ∀ p ∈ base, p ∈ news' := fun p hp => g5 _ (.tail _ (S.keep p hp)) (hbT p hp) (hb1 p hp) (hb2 p hp)
  have hl1 : (W.listOf vs.toArray n1).cls ≠ .type "tuple" := cls_ne (by decide)
  have hl2 : (W.listOf lv.toArray n2).cls ≠ .type "tuple" := cls_ne (by decide)
  have ht' : TupSub news news' := fun a us m q => g5 _ (.tail _ q) (ktok_tupOff N (S.tab.mono' fun p hp => .tail _ hp) (.tail _ q)) (tup_off N (.tail _ q) (.tail _ S.m1) hl1) (tup_off N (.tail _ q) (.tail _ S.m2) hl2)
  have htI : TupSub news' (offI I news') := tup_sub N' hIt hc c1 hs
  exact ⟨⟨rfl, ⟨R', s.laid ++ [k], s.rows ++ [leafRow n]⟩, _, _, _, _, replicate_snoc i ▸ inv_leaf S.inv hx g4, by rw [len_snoc, S.len], Nat.le_trans hl' (Nat.succ_le_succ S.hR), S.few.grow hg, hK'.away N' hIt hc c2 c1 hTI hs, hs _ g1 oI1, ints_snoc S.is_, hs _ g2 oI2,
    lrows_snoc S.rows (fun a us m q => htI _ _ _ (ht' _ _ _ q)) (g3.tups htI), fun p hp => hs _ (hbase p hp) (hoff p (S.keep p hp))⟩, hIt, hbase⟩

/-- the loop over the steps -/
structure StepSt (T : KtA) (laidA lrowsA spA : Addr) (base : List (Addr × Obj)) (i : Nat) (s : LS) (cs sp : List Nat) (news : List (Addr × Obj)) : Prop where
  inv : StInv s cs sp (kOf i)
  rl : s.rows.length ≤ 4 + 2 * i
  hR : s.R.length ≤ 20 + 2 * i
  spl : sp.length = 2 + i
  few : FewR s.R
  at_ : LAt T laidA lrowsA s news
  spine : IntsIn spA sp news
  keep : ∀ p ∈ base, p ∈ news
inductive StepJ (T : KtA) (laidA lrowsA spA : Addr) (base : List (Addr × Obj)) (i : Nat) (vals : List Value) (news : List (Addr × Obj)) : Prop
  | mk (e : vals = []) (s : LS) (cs sp : List Nat) (st : StepSt T laidA lrowsA spA base i s cs sp news) : StepJ T laidA lrowsA spA base i vals news
theorem IntsIn.ne {l I : Addr} {ns : List Nat} {news : List (Addr × Obj)} (h : IntsIn l ns news) (hoff : ∀ p ∈ news, p.1 ≠ I) : l ≠ I := h.rec fun _ _ q _ => hoff _ q
theorem LRowsL.ne {l I : Addr} {rs : List LRow} {news : List (Addr × Obj)} (h : LRowsL l rs news) (hoff : ∀ p ∈ news, p.1 ≠ I) : l ≠ I := h.rec fun _ _ q _ => hoff _ q
theorem RowsAt.neI {l I : Addr} {R : List TRow} {news : List (Addr × Obj)} (h : RowsAt l R news) (hoff : ∀ p ∈ news, p.1 ≠ I) : l ≠ I := h.rec fun _ _ q _ _ => hoff _ q
theorem IntsIn.mono {l : Addr} {ns : List Nat} {news news' : List (Addr × Obj)} (h : IntsIn l ns news) (hs : ∀ p ∈ news, p ∈ news') : IntsIn l ns news' := h.rec fun vs n q i => ⟨vs, n, hs _ q, i⟩
theorem StepSt.mono {T : KtA} {laidA lrowsA spA : Addr} {base news news' : List (Addr × Obj)} {i : Nat} {s : LS} {cs sp : List Nat} (S : StepSt T laidA lrowsA spA base i s cs sp news) (hs : ∀ p ∈ news, p ∈ news') : StepSt T laidA lrowsA spA base i s cs sp news' :=
  ⟨S.inv, S.rl, S.hR, S.spl, S.few, S.at_.mono hs, S.spine.mono hs, fun p hp => hs _ (S.keep p hp)⟩
theorem c_stepS {w : World} {T : KtA} {laidA lrowsA spA : Addr} {base news0 : List (Addr × Obj)} {i : Nat} {s : LS} {cs sp : List Nat} {n : Nat} {tn : Tok} (S : StepSt T laidA lrowsA spA base i s cs sp news0) (hi : i < 14) (n12 : laidA ≠ lrowsA) (n1r : laidA ≠ T.rows) (n2r : lrowsA ≠ T.rows) (n3r : spA ≠ T.rows) (n31 : spA ≠ laidA) (n32 : spA ≠ lrowsA) :
    Ctl w (.ref 283) [.ref T.kt, .ref laidA, .ref lrowsA, .ref spA, .int (n : Int) tn] 20 400 (fun news => ∀ p ∈ news0, p ∈ news) (fun news r news' => r = .none ∧ StepPost T laidA lrowsA spA s sp n news .none news') :=
  have l1 := S.inv.inv.l1
  have l4 := S.inv.four
  have rl := S.rl
  have hR := S.hR
  have hs := S.spl
  (c_step (by omega) (by omega) (by omega) (by omega) S.inv.two (by omega) (fun j hj => l1 ▸ (S.inv.sp j hj).1) n12 n1r n2r n3r n31 n32).wk (fun _ hs => ⟨S.at_.mono hs, S.spine.mono hs⟩) (Nat.le_refl _) (Nat.le_refl _) fun _ _ _ _ p => ⟨p.e, p.e ▸ p⟩
theorem step_turn {T : KtA} {laidA lrowsA spA I : Addr} {it : Obj} {c : String} {base news news' : List (Addr × Obj)} {h₀ h' : Heap} {L : Addr} {s : LS} {cs sp : List Nat} {i n : Nat} {r : Value}
    (N' : News h₀ L h' news') (hc : it.cls = .type c) (c1 : c ≠ "tuple") (c2 : c ≠ "dict") (hoff : ∀ p ∈ news, p.1 ≠ I) (hi14 : i < 14) (S : StepSt T laidA lrowsA spA base i s cs sp news)
    (hb0 : ∀ p ∈ base, p.1 ≠ T.rows) (hb1 : ∀ p ∈ base, p.1 ≠ laidA) (hb2 : ∀ p ∈ base, p.1 ≠ lrowsA) (hb3 : ∀ p ∈ base, p.1 ≠ spA) (P : StepPost T laidA lrowsA spA s sp n ((I, it) :: news) r news') :
    StepJ T laidA lrowsA spA base (i + 1) [] (offI I news') ∧ (I, it) ∈ news' ∧ ∀ p ∈ base, p ∈ news' := by
  have oR := S.at_.tab.rows.neI hoff
  have o1 := S.at_.laid.ne hoff
  have o2 := S.at_.rows.ne hoff
  have o3 := S.spine.ne hoff
  have hIt : (I, it) ∈ news' := P.keep _ (.head _) oR.symm o1.symm o2.symm o3.symm
  have hs : ∀ p ∈ news', p.1 ≠ I → p ∈ offI I news' := fun p hp hn => mem_offI.mpr ⟨hp, hn⟩
  have hbase : ∀ p ∈ base, p ∈ news' := fun p hp => P.keep _ (.tail _ (S.keep p hp)) (hb0 p hp) (hb1 p hp) (hb2 p hp) (hb3 p hp)
  obtain ⟨cs', S', q1, q2⟩ := step_inv (n := n) S.inv (kOf_le hi14)
  exact ⟨⟨rfl, (stepS s sp n).1, cs', (stepS s sp n).2, S', Nat.le_trans q1 (Nat.add_le_add_right S.rl 2), Nat.le_trans q2 (Nat.add_le_add_right S.hR 2), (len_snoc _ _).trans (congrArg (· + 1) S.spl), step_few S.few, P.at_.away N' hIt hc c2 c1 oR o1 o2 hs, P.spine.rec fun vs n q i => ⟨vs, n, hs _ q o3, i⟩, fun p hp => hs _ (hbase p hp) (hoff p (S.keep p hp))⟩, hIt, hbase⟩
theorem leaf_low (j : Nat) : (List.replicate 4 1).getD j 0 ≤ 1 := by
  by_cases h : j < 4
  · have all : ∀ j < 4, (List.replicate 4 1).getD j 0 ≤ 1 := by decide
    exact all j h
  · rw [List.getD_eq_getElem?_getD, List.getElem?_eq_none (by simpa using Nat.not_lt.mp h)]; decide
theorem step_start {s : LS} (I : Inv s (List.replicate 4 1)) (hl : s.rows.length = 4) : StInv s (List.replicate 4 1) [0, 1] (kOf 0) :=
  ⟨I, by omega, fun j _ => leaf_low j, by simp, fun j hj => by
    have hj' : j < 2 := by
      rcases List.mem_cons.mp hj with e | hj
      · omega
      · rw [List.mem_singleton.mp hj]; decide
    exact ⟨by omega, leaf_low j⟩⟩
theorem inv_nil (R : List TRow) : Inv ⟨R, [], []⟩ (List.replicate 0 1) := ⟨rfl, rfl, fun j r h => by simp at h, fun j r h => by simp at h⟩

/-- the words of the rounds are bounded -/
theorem rounds_bound {s : LS} {cs : List Nat} {nm : Nat → Option Str} (hnl : ∀ n t, nm n = some t → t.length ≤ 10) (I : Inv s cs) (hne : 0 < s.rows.length) : ∀ (m : Nat), m ≤ 9 → WBound cs (rounds nm s.rows m)
  | 0, _ => fun j hj => absurd hj (Nat.not_lt_zero j)
  | m + 1, hm => fun j hj => by
    rw [show (rounds nm s.rows (m + 1)).length = s.rows.length from words_len] at hj
    obtain ⟨k, hk⟩ : ∃ k, s.laid[j]? = some k := ⟨s.laid[j]'(by rw [I.l1]; exact hj), List.getElem?_eq_getElem _⟩
    exact (round_shows I hne m (by omega) j k hj hk).len hnl
theorem rounds_len {nm : Nat → Option Str} {rows : List LRow} (m : Nat) : rounds nm rows m = [] ∨ (rounds nm rows m).length = rows.length := by
  cases m with
  | zero => exact .inl rfl
  | succ m => exact .inr words_len
theorem few_env {w : World} {T : KtA} {R : List TRow} {namesA : Addr} {nm : Nat → Option Str} {news : List (Addr × Obj)} (hT : TabOk T R news) (hf : FewR R) (hl : R.length < 1000) (hn : NamesAt w news namesA nm) (hnl : ∀ n t, nm n = some t → t.length ≤ 10) : ShowEnv w news T.kt namesA R nm := by
  refine ⟨hT.rows.rec fun vs nr h len rows => ⟨T.rows, T.idx, T.dep, T.wei, T.opn, vs, nr, hT.kt, h, len ▸ hl, rows⟩, hn, hnl, fun k s tid args e => ?_, fun k o mid args e => ?_⟩
  · have : args.length ≤ 5 := hf _ _ e
    omega
  · have : args.length ≤ 5 := hf _ _ e
    omega
end Mine
namespace Mine
theorem bas2 {P : Addr → Prop} {a b : Addr} {o o' : Obj} (h1 : P a) (h2 : P b) : ∀ p ∈ [(a, o), (b, o')], P p.1 := fun p hp => by
  rcases List.mem_cons.mp hp with e | hp
  · rw [e]; exact h1
  · rw [List.mem_singleton.mp hp]; exact h2
theorem bas2m {news : List (Addr × Obj)} {p q : Addr × Obj} (h1 : p ∈ news) (h2 : q ∈ news) : ∀ r ∈ [p, q], r ∈ news := fun r hr => by
  rcases List.mem_cons.mp hr with e | hr
  · rw [e]; exact h1
  · rw [List.mem_singleton.mp hr]; exact h2
end Mine
namespace Mine
open PySem.Spec PyProof.V PySem.Calls
theorem nums_lt {s : LS} {cs : List Nat} {a b : Nat} (I : Inv s cs) (ha : a < 211) (hb : b < 211) : ∀ n ∈ s.rows.map (·.num) ++ [a, b, 30 + b], n < 100000 := by
  intro n hn
  rcases List.mem_append.mp hn with h | h
  · obtain ⟨r, hr, e⟩ := List.mem_map.mp h
    obtain ⟨j, hj⟩ := List.getElem?_of_mem hr
    have h1 : r.num < 1000 := (I.ok j r hj).num
    have h2 : r.num = n := e
    omega
  · simp only [List.mem_cons, List.not_mem_nil, or_false] at h
    omega
inductive RoundJ (nm : Nat → Option Str) (rows : List LRow) (base : List (Addr × Obj)) (i : Nat) (vals : List Value) (news : List (Addr × Obj)) : Prop
  | mk (wA : Addr) (ol : List (Str × Tok)) (m : Nat) (e : vals = [.ref wA]) (h : (wA, W.listOf (strValues ol).toArray m) ∈ news) (o : ol.map (·.1) = rounds nm rows i) (keep : ∀ p ∈ base, p ∈ news) : RoundJ nm rows base i vals news
theorem ol_len {nm : Nat → Option Str} {rows : List LRow} {ol : List (Str × Tok)} {i : Nat} (h : ol.map (·.1) = rounds nm rows i) : ol = [] ∨ ol.length = rows.length := by
  rcases rounds_len (nm := nm) (rows := rows) i with e | e
  · left; rw [e] at h; exact List.map_eq_nil_iff.mp h
  · right; rw [← h, List.length_map] at e; exact e
theorem inv_cost {s : LS} {cs : List Nat} (I : Inv s cs) {j : Nat} (hj : j < s.rows.length) : cs.getD j 0 ≤ 400000 := (I.ok j _ (List.getElem?_eq_getElem hj)).small
theorem laid_get {s : LS} {cs : List Nat} (I : Inv s cs) {vs : List Value} (hi : IntsAre vs (zs s.laid)) {j : Nat} (hj : j < s.rows.length) : ∃ (k : Nat) (t : Tok), s.laid[j]? = some k ∧ vs[j]? = some (.int (k : Int) t) :=
  ints_get hi I.l1 hj
end Mine

end
theorem Mine.top_offNJP : True := by w_top off; trivial
theorem Mine.turnNJP {M : Model} {A : Around} {env : Env} {Q : Flow → Shared → Prop} {E : Value → Shared → Prop} {s : Shared} (h : Q .next s) : wpAny M A (execs [] env) Q E s := by walk1; exact h
section
-- M31_mac
local macro_rules | `(tactic| walk_at "newList") => `(tactic| (refine Mine.hold_ ?_))
local macro_rules | `(tactic| walk_at "pyIter ref") => `(tactic| ((with_reducible show wpAny _ _ (pyIter (Value.ref _)) (fun it s₂ => LoopAtV _ _ _ _ _ _ _ _ _ it s₂) _ _); refine Mine.hold_ ?_))
local macro_rules | `(tactic| walk_at "exec For Name Subscript cons nil") => `(tactic| ((rename Fr _ _ _ _ => lF'); (with_unfolding_all refine' For_invVF lF' ?k1 ?k2 ?_; (case k1 => exact rfl); (case k2 => exact rfl); k_whole)))
local macro_rules | `(tactic| walk_at "exec For Name Call cons nil") => `(tactic| ((rename Fr _ _ _ _ => lF'); (with_unfolding_all refine' For_invVF lF' ?k1 ?k2 ?_; (case k1 => exact rfl); (case k2 => exact rfl); k_whole)))
local macro_rules | `(tactic| walk_at "exec For Name Tuple cons nil") => `(tactic| ((rename Fr _ _ _ _ => lF'); (with_unfolding_all refine' For_invVF lF' ?k1 ?k2 ?_; (case k1 => exact rfl); (case k2 => exact rfl); k_whole)))
local macro_rules | `(tactic| walk_at "subscriptTail Name Constant ref int") => `(tactic| (refine Mine.hold_ ?_))
local macro_rules | `(tactic| walk_at "eval ListComp") => `(tactic| ((with_reducible show wpAny _ _ (eval (PySem.Expr.ListComp _ [⟨_, PySem.Expr.Subscript _ _ _, _, _⟩] _ _) _) _ _ _); refine Mine.hold_ ?_))
local macro_rules | `(tactic| walk_at "eval ListComp") => `(tactic| ((with_reducible show wpAny _ _ (eval (PySem.Expr.ListComp _ [⟨PySem.Expr.Tuple _ _ _, _, _, _⟩] _ _) _) _ _ _); refine Mine.hold_ ?_))
local macro_rules | `(tactic| walk_at "subscriptTail Name UnaryOp ref int") => `(tactic| (refine Mine.hold_ ?_))
local macro_rules | `(tactic| walk_at "call builtin:len") => `(tactic| ((with_reducible rename Mine.NamesAt _ _ _ _ => hnmX); refine Mine.hold_ ?_))

-- J1_law
local macro_rules | `(tactic| ktr_room) => `(tactic| decide)
local macro_rules | `(tactic| ktr_units) => `(tactic| decide)
local macro_rules | `(tactic| walk_at $k:str) => do
  if ["newList", "exec For Name Subscript cons nil", "exec For Name Call cons nil", "exec For Name Tuple cons nil", "subscriptTail Name Constant ref int", "subscriptTail Name Name ref int", "subscriptTail Name UnaryOp ref int", "binaryOp FloorDiv int int", "binaryOp Add int int"].contains k.getString then `(tactic| refine Mine.hold_ ?_) else Lean.Macro.throwUnsupported
local macro_rules | `(tactic| walk_at "binaryOp Mod int int") => `(tactic| ((with_reducible show wpAny _ _ (binaryOp _ (Value.int (Nat.cast _) _) _) _ _ _); refine Mine.hold_ ?_))
local macro_rules | `(tactic| walk_at "call builtin:len") => `(tactic| ((with_reducible rename Mine.NamesAt _ _ _ _ => hnmX); refine Mine.hold_ ?_))
local macro_rules | `(tactic| walk_at "subscriptTail Name Slice ref ref") => `(tactic| ((with_reducible show wpAny _ _ (subscriptTail _ (PySem.Expr.Slice (some _) _ none _) (Value.ref _) (Value.ref _)) _ _ _); refine Mine.hold_ ?_))
local macro_rules | `(tactic| walk_at "eval ListComp") => `(tactic| (first | (with_reducible show wpAny _ _ (eval (PySem.Expr.ListComp _ [⟨_, PySem.Expr.Subscript _ _ _, _, _⟩] _ _) _) _ _ _) | (with_reducible show wpAny _ _ (eval (PySem.Expr.ListComp _ [⟨PySem.Expr.Tuple _ _ _, _, _, _⟩] _ _) _) _ _ _)); refine Mine.hold_ ?_)
local macro_rules | `(tactic| k_qdec) => `(tactic| decide +kernel)
namespace Mine
open PySem.Spec PyProof.V PySem.Calls
theorem more {h₀ h : Heap} {L : Addr} {news : List (Addr × Obj)} {R : List (Addr × Obj) → Prop} {P : Prop} (N : News h₀ L h news) (r : R news) (k : ∀ nw, News h₀ L h nw → R nw → P) : P := k _ N r
theorem more2 {h₀ h : Heap} {L : Addr} {news : List (Addr × Obj)} {vs : List Value} {R : List Value → List (Addr × Obj) → Prop} {P : Prop} (N : News h₀ L h news) (r : R vs news) (k : ∀ vs nw, News h₀ L h nw → R vs nw → P) : P := k _ _ N r
theorem ys_len {ys ys2 : List Value} {m : Nat} (h : (ys ++ ys2).length = m) (e : m = 18) : ys.toArray.size + ys2.toArray.size ≤ sizeLine := by
  have : sizeLine = 16777216 := rfl
  rw [List.length_append] at h
  rw [List.size_toArray, List.size_toArray]
  omega
theorem leaf_len {ws : List Value} {l : List Nat} (hi : IntsAre ws (zs ((l.drop 1).take (min 5 l.length - 1)))) (h : l.length = 18) : ws.length = 4 := by
  rw [ints_len hi, List.length_take, List.length_drop, h]
  rfl
theorem step_len {ws : List Value} {l : List Nat} {v : Nat} (hi : IntsAre ws (zs ((l.drop 5).take (min (15 + v % 4) l.length - 5)))) (h : l.length = 18) : ws.length ≤ 13 := by
  rw [ints_len hi, List.length_take, List.length_drop, h]
  omega
theorem step_sizes {n r R : Nat} (h : n ≤ 13) (h1 : r ≤ 4 + 2 * n) (h2 : R ≤ 20 + 2 * n) : R < 1000 ∧ r ≤ 100 := by omega
theorem lrow_get {news : List (Addr × Obj)} {lv : List Value} {rows : List LRow} {q : Nat} {v : Value} (H : LRowsIn news lv rows) (hq : lv[q]? = some v) : ∃ r, rows[q]? = some r ∧ LRowIn news v r := by
  have hq9 := (List.getElem?_eq_some_iff.mp hq).1
  rw [H.1] at hq9
  obtain ⟨v', e1, e2⟩ := H.2 q _ (List.getElem?_eq_getElem hq9)
  exact ⟨_, List.getElem?_eq_getElem hq9, Option.some.inj (hq.symm.trans e1) ▸ e2⟩
theorem nums_size {ys : List Value} {n : Nat} (h : ys.length = n) (hn : n ≤ 100) {a b c : Value} : ys.toArray.size + (List.toArray [a, b, c]).size ≤ sizeLine := by
  have : sizeLine = 16777216 := rfl
  rw [List.size_toArray, List.size_toArray]
  show ys.length + 3 ≤ _
  omega
theorem nums_len {rows : List LRow} {a b c : Nat} (h : rows.length ≤ 100) : (rows.map (·.num) ++ [a, b, c]).length ≤ 1000 := by
  rw [List.length_append, List.length_map]
  show _ + 3 ≤ _
  omega
theorem two_vals {x y n i : Nat} {t1 t2 : Tok} {v : Value} (hx : x < n) (hy : y < n) (hv : [Value.int (x : Int) t1, .int (y : Int) t2][i]? = some v) : ∃ (j : Nat) (t : Tok), j < n ∧ v = Value.int ((j : Nat) : Int) t :=
  match i, hv with
  | 0, hv => ⟨x, t1, hx, (Option.some.inj hv).symm⟩
  | 1, hv => ⟨y, t2, hy, (Option.some.inj hv).symm⟩
  | _ + 2, hv => nomatch hv
theorem tk18 (ns : List Int) : (ns.take 18).length ≤ 18 := by rw [List.length_take]; exact Nat.min_le_left _ _
set_option maxHeartbeats 16000000 in
theorem x : PySem.Challenge.rw_xw0069_01.Holds := by
  refine hd ?_
  k_go0
  all_goals try k_fold
  with_reducible rename List Int => ns
  with_reducible rename World => w
  k_steps
  unfold Hold
  with_reducible rename Fr _ _ _ _ => F1
  with_reducible rename News _ _ _ _ => N1
  with_reducible rename IntsAre _ (List.map _ (List.take 18 ns)) => hIy
  have hmin := tk18 ns
  refine m_compX F1 (G := fun q y => ∃ (n : Nat) (t : Tok), (tailN.drop (ns.take 18).length)[q]? = some n ∧ y = Value.int (n : Int) t) (by with_unfolding_all rfl) (by decide) rfl (by decide) rfl rfl ?_
  k_steps
  unfold Hold
  refine m_sliceTA (a := (ns.take 18).length) F1 N1 (.tail _ (.head _)) (by show 18 ≤ 16000; decide) (by first | rfl | assumption | omega | (simp; done) | (simp; omega)) (by show _ ≤ 18; omega) ?_ (by with_unfolding_all rfl) (by intro _; with_unfolding_all rfl)
  intro D1 h1 n1 F2 hN
  refine hideG ?_
  intro P k9
  obtain ⟨news2, N2, hD1, hs2⟩ := hN
  have hti := tail_of N1
  have hD1' := hti.drop (ns.take 18).length
  rw [zs_drop] at hD1'
  refine k9 ?_
  clear k9
  refine ⟨D1, _, n1, news2, rfl, F2, N2, hD1, ?_, ?_, ?_⟩
  · have : sizeLine = 16777216 := rfl
    rw [List.size_toArray, List.length_drop]
    show 18 - _ ≤ _
    omega
  · intro q v2 I2 oI2 C2 oC2 D2 ys2 m2 h2 tk2 E2 hv2 hC2 hx2 F5 N5
    refine hideG ?_
    intro P k9
    obtain ⟨n, t, hn, e⟩ := ints_at hD1' (i := q) (v := v2) (by simpa using hv2)
    subst e
    refine k9 ?_
    clear k9 F1 N1 F2 N2
    k_steps
    unfold Hold
    exact EltEnd.intro ⟨n, t, hn, rfl⟩ (by assumption) (by assumption) (fun p hp => hp)
  · intro D ys2 h9 tk9 hyl hyG F5 N5 hDn
    have hys2 : IntsAre ys2 (zs (tailN.drop (ns.take 18).length)) := comp_ints (by
      rw [hyl, List.size_toArray]
      exact hD1'.length.trans (List.length_map _)) hyG
    have hV := VN_ints hIy hys2
    have hy1 := hs2 _ (.head _)
    clear F1 N1 F2 N2
    refine kmk_add_lit (zs := ys ++ ys2) (its := ys.toArray) (its2 := ys2.toArray) F5 N5 ⟨_, (N5 _ (.tail _ hy1)).1, rfl, _, rfl⟩ ⟨_, (N5 _ (.head _)).1, rfl, _, rfl⟩ (by simp) ?_ (ys_len (ints_len hV) (VN_len ns))
    intro vA h10 F6 N6 l6
    refine more2 (R := fun vs nw => IntsAre vs (zs (VN ns)) ∧ (vA, W.listOf vs.toArray 0) ∈ nw) N6 ⟨hV, .head _⟩ ?_
    intro vs nV NV hVv
    have hV := hVv.1
    have hvA := hVv.2
    clear N6 F5 N5 l6 hy1 hD1 hs2 hD1' hti hys2 hyG hDn hyl hVv
    k_steps
    unfold Hold
    with_reducible rename Fr _ _ _ _ => F2
    with_reducible rename News _ _ _ _ => N2
    k_dflt (refine' Ctl.use (w := w) c_new ?B ?F ?X ?N ?T ?hk trivial ?d ?u ?_; walk_at "m_ctl")
    intro r9 h9 tk9 news3 F9 N9 p9
    refine hideG ?_
    intro P k9
    obtain ⟨T, R0, e9, hK0, hn0, s0, o0⟩ := p9
    subst e9
    have hv3 := s0 _ hvA
    have ov := o0 _ hvA
    refine k9 ?_
    clear k9 F2 N2 hvA s0 o0
    k_steps
    unfold Hold
    with_reducible rename Fr _ _ _ _ => F2
    with_reducible rename News _ _ _ _ => N2
    refine newList_K F2 N2 ?_
    intro laidA h4 F3 N3 l4
    clear F2 N2
    k_steps
    unfold Hold
    with_reducible rename Fr _ _ _ _ => F2
    with_reducible rename News _ _ _ _ => N2
    refine newList_K F2 N2 ?_
    intro lrowsA h5 F4 N4 l5
    have ola : T.Off laidA := ktok_newOff hK0 l4
    have olr : T.Off lrowsA := ktok_newOff hK0 fun p hp => l5 p (.tail _ hp)
    have n12 : laidA ≠ lrowsA := Nat.ne_of_lt (l5 _ (.head _))
    have nv1 : vA ≠ laidA := Nat.ne_of_lt (l4 _ hv3)
    have nv2 : vA ≠ lrowsA := Nat.ne_of_lt (l5 _ (.tail _ hv3))
    clear F2 N2 l4
    k_steps
    unfold Hold
    with_reducible rename Fr _ _ _ _ => F2
    with_unfolding_all refine' For_invVF F2 rfl rfl ?_
    k_steps
    unfold Hold
    with_reducible rename Fr _ _ _ _ => F2
    with_reducible rename News _ _ _ _ => N2
    refine m_sliceL F2 N2 (.tail _ (.tail _ hv3)) hV rfl rfl (by rw [VN_len]; decide) ?_ (by with_unfolding_all rfl) (by intro _; with_unfolding_all rfl)
    intro D1 ws1 h6 F5 N5 lD1 hi1
    have nD1 : D1 ≠ laidA := Nat.ne_of_gt (lD1 _ (.tail _ (.head _)))
    have nD2 : D1 ≠ lrowsA := Nat.ne_of_gt (lD1 _ (.head _))
    have oD1 : T.Off D1 := ktok_newOff hK0 fun p hp => lD1 p (.tail _ (.tail _ hp))
    refine more (R := fun nw => LeafSt w T laidA lrowsA [(vA, W.listOf vs.toArray 0), (D1, W.listOf ws1.toArray 0)] 0 ⟨R0, [], []⟩ [] [] 0 0 nw) N5 ⟨inv_nil R0, rfl, Nat.le_of_eq hn0, fun k r e => (small_new hK0 hn0 k r e).few, hK0.mono' fun p hp => .tail _ (.tail _ (.tail _ hp)), .tail _ (.tail _ (.head _)), .nil, .tail _ (.head _), ⟨rfl, fun i r h => (nomatch h)⟩, bas2m (.tail _ (.tail _ (.tail _ hv3))) (.head _)⟩ ?_
    intro nw Nw hS0
    have hlen1 := leaf_len hi1 (VN_len ns)
    clear F2 N2 N5 lD1 l5 hv3 hK0
    k_steps
    unfold Hold
    with_reducible rename Fr _ _ _ _ => F2
    refine m_forL (x := Str.ofString "n") (lo := W.listOf ws1.toArray 0) (vs := ws1) (k := 0) [] [] [] (LeafJ w T laidA lrowsA [(vA, W.listOf vs.toArray 0), (D1, W.listOf ws1.toArray 0)]) rfl (hS0.keep _ (.tail _ (.head _))) rfl rfl F2 Nw ⟨rfl, _, _, _, _, _, hS0⟩ (fun _ h => nomatch h) ?_ ?_
    · intro I i v it h tk vals u news₁ hI hv hic hoff hlm hJ F3 N3 K hK
      refine hideG ?_
      intro P k9
      obtain ⟨e9, s, vs9, lv9, n1, n2, S⟩ := hJ
      have hi4 : i < 4 := hlen1 ▸ (List.getElem?_eq_some_iff.mp hv).1
      obtain ⟨n9, t9, hn9, ev⟩ := ints_at hi1 hv
      subst e9 ev
      refine k9 ?_
      clear k9 F2 Nw hS0 hV hi1 hlen1 hIy hv
      k_steps
      unfold Hold
      with_reducible rename News _ _ _ _ => N4
      k_dflt (refine' Ctl.u0 (c_leafS S hi4 ola olr n12) ?B ?F ?X ?N ?T ?hk ?hp ?d ?u ?_; walk_at "m_ctl"; (case hp => exact fun p hp => .tail _ hp))
      intro h9 tk9 news9 F9 N9 p9
      have q := leaf_turn N4 N9 hic (by decide) (by decide) hoff S (bas2 (P := T.Off) ov oD1) (bas2 (P := (· ≠ laidA)) nv1 nD1) (bas2 (P := (· ≠ lrowsA)) nv2 nD2) p9
      clear N4 S
      k_steps
      unfold Hold KP
      exact hK .next _ (MEnd.of (by assumption) N9 q.2.1 (fun p hp => by rw [List.mem_singleton.mp hp]; exact q.2.2 _ (.tail _ (.head _))) rfl (fun z g1 _ _ => (if_neg g1).trans rfl) q.1)
    · intro vals u news₁ h tk hJ hlm F3 N3
      refine hideG ?_
      intro P k9
      obtain ⟨e9, s, vs9, lv9, n1, n2, S⟩ := hJ
      subst e9
      rw [hlen1] at S
      have hv4 := S.keep _ (.head _)
      have S4 := step_start S.inv S.len
      have oNew : ∀ a : Addr, (∀ p ∈ news₁, p.1 < a) → a ≠ T.rows ∧ a ≠ laidA ∧ a ≠ lrowsA ∧ a ≠ vA := fun a ha => ⟨(ktok_newOff S.tab ha).1, Nat.ne_of_gt (ha _ S.m1), Nat.ne_of_gt (ha _ S.m2), Nat.ne_of_gt (ha _ hv4)⟩
      obtain ⟨v0, tv0, hv0, hv0'⟩ := ints_get hV (VN_len ns) (show 0 < 18 by decide)
      refine k9 ?_
      clear k9 F2 Nw hS0 hlm hi1 hlen1 nD1 nD2 oD1 hn0
      k_steps
      unfold Hold
      with_reducible rename Fr _ _ _ _ => F4
      with_reducible rename News _ _ _ _ => N4
      refine newList_K F4 N4 ?_
      intro spA h5 F5 N5 l5
      have osp := oNew spA l5
      refine more (R := fun nw => StepSt T laidA lrowsA spA [(vA, W.listOf vs.toArray 0)] 0 s (List.replicate 4 1) [0, 1] nw) N5 ⟨S4, Nat.le_of_eq S.len, S.hR, rfl, S.few, ⟨S.tab.tab.mono fun p hp => .tail _ hp, ⟨_, _, .tail _ S.m1, S.is_⟩, ⟨_, _, .tail _ S.m2, S.rows.tups fun _ _ _ q => .tail _ q⟩⟩, ⟨_, _, .head _, .cons _ _ (.cons _ _ .nil)⟩, fun p hp => .tail _ (by rw [List.mem_singleton.mp hp]; exact hv4)⟩ ?_
      intro nw Nw S0
      have hvw := S0.keep _ (.head _)
      clear F4 N4 N5 hv4 l5 oNew S S4
      k_steps
      with_reducible rename Fr _ _ _ _ => F2
      with_unfolding_all refine' For_invVF F2 rfl rfl ?_
      k_steps
      unfold Hold
      with_reducible rename News _ _ _ _ => N4
      refine m_itemL N4 hvw hv0' (by decide) (by decide) ?_
      k_steps
      unfold Hold
      k_dflt ((refine' Mine.m_modK 4 (rfl : (4 : Int) = ((4 : Nat) : Int)) (by decide) ?_); k_whole)
      k_steps
      unfold Hold
      k_dflt ((refine' Mine.m_addL 15 (rfl : (15 : Int) = ((15 : Nat) : Int)) ?_); k_whole)
      k_steps
      unfold Hold
      with_reducible rename Fr _ _ _ _ => F4
      with_reducible rename News _ _ _ _ => N4
      refine m_sliceL (a := 5) (b := 15 + v0 % 4) F4 N4 hvw hV rfl rfl (by rw [VN_len]; decide) ?_ (by with_unfolding_all rfl) (by intro _; with_unfolding_all rfl)
      intro D1 ws1 h6 F5 N5 lD1 hi1
      have hlen1 := step_len hi1 (VN_len ns)
      have oD1 := hi1 |> fun _ => And.intro (S0.at_.tab.rows.neI (I := D1) fun p hp => Nat.ne_of_lt (lD1 p hp)) (And.intro (S0.at_.laid.ne (I := D1) fun p hp => Nat.ne_of_lt (lD1 p hp)) (And.intro (S0.at_.rows.ne (I := D1) fun p hp => Nat.ne_of_lt (lD1 p hp)) (S0.spine.ne (I := D1) fun p hp => Nat.ne_of_lt (lD1 p hp))))
      refine more (R := fun nw => StepSt T laidA lrowsA spA [(vA, W.listOf vs.toArray 0), (D1, W.listOf ws1.toArray 0)] 0 s (List.replicate 4 1) [0, 1] nw) N5 ⟨S0.inv, S0.rl, S0.hR, S0.spl, S0.few, S0.at_.mono fun p hp => .tail _ hp, S0.spine.mono fun p hp => .tail _ hp, bas2m (.tail _ hvw) (.head _)⟩ ?_
      intro nw2 Nw2 S1
      clear F4 N4 N5 Nw hvw lD1 S0
      k_steps
      unfold Hold
      with_reducible rename Fr _ _ _ _ => F2
      refine m_forL (x := Str.ofString "n") (lo := W.listOf ws1.toArray 0) (vs := ws1) (k := 0) [] [] [] (StepJ T laidA lrowsA spA [(vA, W.listOf vs.toArray 0), (D1, W.listOf ws1.toArray 0)]) rfl (S1.keep _ (.tail _ (.head _))) rfl rfl F2 Nw2 ⟨rfl, _, _, _, S1⟩ (fun _ h => nomatch h) ?_ ?_
      · intro I i v it h tk vals u news₁ hI hv hic hoff hlm hJ F3 N3 K hK
        refine hideG ?_
        intro P k9
        obtain ⟨e9, s, cs, sp, S⟩ := hJ
        have hi14 : i < 14 := Nat.lt_of_lt_of_le (List.getElem?_eq_some_iff.mp hv).1 (Nat.le_succ_of_le hlen1)
        obtain ⟨n9, t9, hn9, ev⟩ := ints_at hi1 hv
        subst e9 ev
        refine k9 ?_
        clear k9 F2 Nw2 S1 hV hi1 hlen1 hIy hv
        k_steps
        unfold Hold
        with_reducible rename News _ _ _ _ => N4
        k_dflt (refine' Ctl.u0 (c_stepS S hi14 n12 ola.1 olr.1 osp.1 osp.2.1 osp.2.2.1) ?B ?F ?X ?N ?T ?hk ?hp ?d ?u ?_; walk_at "m_ctl"; (case hp => exact fun p hp => .tail _ hp))
        intro h9 tk9 news9 F9 N9 p9
        have q := step_turn N9 hic (by decide) (by decide) hoff hi14 S (bas2 (P := (· ≠ T.rows)) ov.1 oD1.1.symm) (bas2 (P := (· ≠ laidA)) nv1 oD1.2.1.symm) (bas2 (P := (· ≠ lrowsA)) nv2 oD1.2.2.1.symm) (bas2 (P := (· ≠ spA)) osp.2.2.2.symm oD1.2.2.2.symm) p9
        clear N4 S
        k_steps
        unfold Hold KP
        exact hK .next _ (MEnd.of (by assumption) N9 q.2.1 (fun p hp => by rw [List.mem_singleton.mp hp]; exact q.2.2 _ (.tail _ (.head _))) rfl (fun z g1 _ _ => (if_neg g1).trans rfl) q.1)
      · intro vals u news₁ h tk hJ hlm F3 N3
        refine hideG ?_
        intro P k9
        obtain ⟨e9, s, cs, sp, S⟩ := hJ
        subst e9
        have hv5 := S.keep _ (.head _)
        have hB := step_sizes hlen1 S.rl S.hR
        have hI := S.inv.inv
        have h4 := S.inv.four
        have hne : 0 < s.rows.length := Nat.lt_of_lt_of_le (by decide) h4
        obtain ⟨v1, tv1, hv1, hv1'⟩ := ints_get hV (VN_len ns) (show 1 < 18 by decide)
        obtain ⟨v2, tv2, hv2, hv2'⟩ := ints_get hV (VN_len ns) (show 2 < 18 by decide)
        obtain ⟨lv, ml, hlm9, hlr9⟩ := S.at_.rows
        have ha := Nat.mod_lt (v1 / 4) (show 211 > 0 by decide)
        have hb := Nat.mod_lt (v2 / 4) (show 211 > 0 by decide)
        refine k9 ?_
        clear k9 F2 Nw2 S1 hlm hi1 oD1
        k_steps
        unfold Hold
        with_reducible rename News _ _ _ _ => N4
        refine m_itemL N4 hv5 hv1' (by decide) (by decide) ?_
        k_steps
        unfold Hold
        k_dflt ((refine' Mine.m_divK 4 (rfl : (4 : Int) = ((4 : Nat) : Int)) (by decide) (by decide) ?_); k_whole)
        k_steps
        unfold Hold
        k_dflt ((refine' Mine.m_modK 211 (rfl : (211 : Int) = ((211 : Nat) : Int)) (by decide) ?_); k_whole)
        k_steps
        unfold Hold
        with_reducible rename News _ _ _ _ => N4
        refine m_itemL N4 hv5 hv2' (by decide) (by decide) ?_
        k_steps
        unfold Hold
        k_dflt ((refine' Mine.m_divK 4 (rfl : (4 : Int) = ((4 : Nat) : Int)) (by decide) (by decide) ?_); k_whole)
        k_steps
        unfold Hold
        k_dflt ((refine' Mine.m_modK 211 (rfl : (211 : Int) = ((211 : Nat) : Int)) (by decide) ?_); k_whole)
        k_steps
        unfold Hold
        with_reducible rename Fr _ _ _ _ => F2
        refine m_comp3 F2 (G := fun q y => ∃ (n : Nat) (t : Tok), (s.rows.map (·.num))[q]? = some n ∧ y = Value.int (n : Int) t) (by with_unfolding_all rfl) (by decide) rfl (by decide) rfl rfl rfl (by decide) (by decide) (by decide) rfl ?_
        walk1
        dsimp only
        with_reducible rename Fr _ _ _ _ => F2
        with_reducible rename News _ _ _ _ => N2
        refine ⟨lrowsA, lv.toArray, ml, _, rfl, F2, N2, hlm9, ?_, ?_, ?_⟩
        · have : sizeLine = 16777216 := rfl
          rw [List.size_toArray, hlr9.1]; exact Nat.le_trans hB.2 (by decide)
        · intro q v hq
          obtain ⟨r9, h9r, a9, b9, ps9, t91, t92, m91, m92, e2, g1, g2, g3⟩ := lrow_get hlr9 (by simpa using hq)
          subst e2
          refine ⟨a9, _, _, _, _, rfl, g1, ?_⟩
          intro I2 oI2 C2 oC2 D2 ys2 m2 h2 tk2 E2 hC2 hx2 hy2 hz2 F5 N5
          clear F2 N2
          k_steps
          unfold Hold
          exact EltEnd.intro ⟨_, _, by rw [List.getElem?_map, h9r]; rfl, rfl⟩ (by assumption) (by assumption) (fun p hp => hp)
        · intro D ys9 h9 tk9 hyl hyG F5 N5 hDn
          have hys9 : IntsAre ys9 (zs (s.rows.map (·.num))) := comp_ints (by rw [hyl, List.size_toArray, hlr9.1, List.length_map]) hyG
          clear F2 N2
          k_steps
          unfold Hold
          k_dflt ((refine' Mine.m_addL 30 (rfl : (30 : Int) = ((30 : Nat) : Int)) ?_); k_whole)
          k_steps
          unfold Hold
          with_reducible rename Fr _ _ _ _ => F2
          with_reducible rename News _ _ _ _ => N2
          refine newList_K F2 N2 ?_
          intro D2 h10 F6 N6 l6
          clear F2 N2
          dsimp only
          refine kmk_add_lit (zs := ys9 ++ [Value.int ((v1 / 4 % 211 : Nat) : Int) _, .int ((v2 / 4 % 211 : Nat) : Int) _, .int ((30 + v2 / 4 % 211 : Nat) : Int) _]) (its := ys9.toArray) (its2 := List.toArray [Value.int ((v1 / 4 % 211 : Nat) : Int) _, .int ((v2 / 4 % 211 : Nat) : Int) _, .int ((30 + v2 / 4 % 211 : Nat) : Int) _]) F6 N6 ⟨_, (N6 _ (.tail _ (.head _))).1, rfl, _, rfl⟩ ⟨_, (N6 _ (.head _)).1, rfl, _, rfl⟩ rfl ?_ (nums_size ((ints_len hys9).trans (List.length_map _)) hB.2)
          intro numsA h11 F7 N7 l7
          refine more2 (R := fun vn nw => IntsAre vn (zs (s.rows.map (·.num) ++ [v1 / 4 % 211, v2 / 4 % 211, 30 + v2 / 4 % 211])) ∧ (numsA, W.listOf vn.toArray 0) ∈ nw ∧ ∀ p ∈ news₁, p ∈ nw) N7 ⟨by rw [zs_app]; exact hys9.append (.cons _ _ (.cons _ _ (.cons _ _ .nil))), .head _, fun p hp => .tail _ (.tail _ (.tail _ hp))⟩ ?_
          intro vn nw3 Nw3 hvn
          have S3 := S.mono hvn.2.2
          have hlm3 := hvn.2.2 _ hlm9
          have hlr3 : LRowsIn nw3 lv s.rows := hlr9.tups fun _ _ _ q => hvn.2.2 _ q
          have hv6 := S3.keep _ (.head _)
          have hns := hvn.1
          have hvn3 := hvn.2.1
          have hsm := nums_lt hI ha hb
          have hsl : (s.rows.map (·.num) ++ [v1 / 4 % 211, v2 / 4 % 211, 30 + v2 / 4 % 211]).length ≤ 1000 := nums_len hB.2
          generalize s.rows.map (·.num) ++ [v1 / 4 % 211, v2 / 4 % 211, 30 + v2 / 4 % 211] = ls at hns hsm hsl
          clear N6 N7 l6 l7 hv5 hys9 hyG hDn hlm9 hlr9 hyl hvn S
          k_steps
          unfold Hold
          with_reducible rename News _ _ _ _ => N4
          refine m_itemL N4 hv6 hv0' (by decide) (by decide) ?_
          k_steps
          unfold Hold
          k_dflt ((refine' Mine.m_divK 4 (rfl : (4 : Int) = ((4 : Nat) : Int)) (by decide) (by decide) ?_); k_whole)
          k_steps
          unfold Hold
          k_dflt ((refine' Mine.m_modK 15 (rfl : (15 : Int) = ((15 : Nat) : Int)) (by decide) ?_); k_whole)
          k_steps
          unfold Hold
          have ht15 := Nat.mod_lt (v0 / 4) (show 15 > 0 by decide)
          k_dflt (refine' Ctl.u1 (c_names (n1 := 0) hns hsl (Nat.le_trans (Nat.le_of_lt ht15) (by decide)) hsm) ?B ?F ?X ?N ?T ?hk ?hp ?d ?u ?_; walk_at "m_ctl"; (case hp => exact hvn3))
          intro namesA h9 tk9 news9 F9 N9 p9
          have hnm := p9.1
          have hk9 := p9.2
          have S9 := S3.mono hk9
          have hlm7 := hk9 _ hlm3
          have hlr7 : LRowsIn news9 lv s.rows := hlr3.tups fun _ _ _ q => hk9 _ q
          have hvn7 := hk9 _ hvn3
          have hv7 := hk9 _ hv6
          have hnl := nmOf_len ls (v0 / 4 % 15)
          clear p9 hk9 S3 hlm3 hlr3 hvn3 hv6
          k_steps
          unfold Hold
          with_reducible rename Fr _ _ _ _ => F4
          with_reducible rename News _ _ _ _ => N4
          refine newList_K F4 N4 ?_
          intro wA0 h12 F5 N5 l12
          clear F4 N4 l12
          k_steps
          with_reducible rename Fr _ _ _ _ => F2
          with_unfolding_all refine' For_invVF F2 rfl rfl ?_
          k_steps
          unfold Hold
          with_reducible rename Fr _ _ _ _ => F2
          with_reducible rename News _ _ _ _ => N2
          with_reducible rename IsRange _ _ _ _ _ _ _ _ => hr1
          refine m_forR (x := Str.ofString "level") (n := 9) [Str.ofString "words"] [] [.ref wA0] (RoundJ (nmOf ls (v0 / 4 % 15)) s.rows news9) rfl hr1 (by decide) (by decide) F2 N2 ⟨wA0, [], 0, rfl, by first | exact .head _ | exact .tail _ (.head _), rfl, fun p hp => by first | exact .tail _ hp | exact .tail _ (.tail _ hp)⟩ (fun p hp => by rw [List.mem_singleton.mp hp]; rfl) ?_ ?_
          · intro I i tn it h tk vals u news₁ hI9 hi9 hic hoff hJ F3 N3 K hK
            refine hideG ?_
            intro P k9
            obtain ⟨wA, ol, m9, e9, hw9, ho9, hb9⟩ := hJ
            subst e9
            have hsub : ∀ p ∈ news9, p ∈ (I, it) :: news₁ := fun p hp => .tail _ (hb9 p hp)
            refine k9 ?_
            clear k9 F2 N2 hr1 hI9
            k_steps
            unfold Hold
            with_reducible rename News _ _ _ _ => N4
            k_dflt (refine' Ctl.use (w := w) (c_words (n1 := ml) (n2 := m9) (cs := cs) hnl hI.ok (Nat.le_trans hB.2 (by decide)) (ol_len ho9) (by rw [ho9]; exact rounds_bound hnl hI hne i (Nat.le_of_lt hi9))) ?B ?F ?X ?N ?T ?hk ?hp ?d ?u ?_; walk_at "m_ctl"; (case hp => exact ⟨hsub _ hlm7, hlr7.tups fun _ _ _ q => hsub _ q, hnm.mono hsub, .tail _ hw9⟩))
            intro r9 h9 tk9 news8 F9 N9 p9
            refine hideG ?_
            intro P k9
            obtain ⟨wB, ol2, m8, e9, hw8, ho8, hk8⟩ := p9
            subst e9
            have hwI : wB ≠ I := obj_ne N9 hw8 (hk8 _ (.head _)) (by rw [hic]; exact cls_ne (by decide))
            refine k9 ?_
            clear k9 N4
            k_steps
            unfold Hold KP
            exact hK .next _ (MEnd.of (by assumption) (by assumption) (hk8 _ (.head _)) (fun _ h => nomatch h) rfl (fun z g1 _ g3 => by
              have g4 : z ≠ Str.ofString "words" := fun e => by subst e; exact absurd g3 (by decide)
              refine (if_neg g4).trans ((if_neg g1).trans ?_)
              show setN _ _ z = _
              exact if_neg g4) ⟨wB, ol2, m8, rfl, mem_offI.mpr ⟨hw8, hwI⟩, by rw [ho8, ho9]; rfl, fun p hp => mem_offI.mpr ⟨hk8 _ (hsub p hp), hoff p (hb9 p hp)⟩⟩)
          · intro vals u news₁ h tk hJ F3 N3
            refine hideG ?_
            intro P k9
            obtain ⟨wA, ol, m9, e9, hw9, ho9, hb9⟩ := hJ
            subst e9
            have Sx := S9.mono hb9
            have hvn8 := hb9 _ hvn7
            have hv8 := hb9 _ hv7
            have hlm8 := hb9 _ hlm7
            have hnm8 := hnm.mono hb9
            have ol9 : ol.length = s.rows.length := ((List.length_map _).symm.trans (congrArg List.length ho9)).trans words_len
            have hlrl : lv.length = s.rows.length := hlr7.1
            obtain ⟨sv, ms, jm, ji⟩ := Sx.spine
            obtain ⟨vl, nl, hl8, hil⟩ := Sx.at_.laid
            have h2 := S9.inv.two
            have jil := ints_len ji
            obtain ⟨x9, tx9, hx9, hx9'⟩ := ints_get ji rfl (Nat.sub_lt (Nat.lt_of_lt_of_le (by decide) h2) (show 0 < 1 by decide))
            have hxr : x9 < s.rows.length := (S9.inv.sp x9 (List.mem_of_getElem? hx9)).1
            have hE9 := few_env Sx.at_.tab Sx.few hB.1 hnm8 hnl
            have hc16 : lv.length ≤ 16384 := by rw [hlrl]; exact Nat.le_trans hB.2 (by decide)
            have hsv := jil ▸ ends_at h2
            refine k9 ?_
            clear k9 F2 N2 hr1 hvn7 hv7 hlm7 hlr7 hnm hb9
            k_steps
            with_reducible rename Fr _ _ _ _ => F2
            with_unfolding_all refine' For_invVF F2 rfl rfl ?_
            k_steps
            unfold Hold
            with_reducible rename News _ _ _ _ => N4
            refine m_itemNeg N4 jm (by decide) hsv.1 (by decide) (x := .int (x9 : Int) tx9) (by rw [hsv.2.2.1]; exact jil ▸ hx9') ?_
            k_steps
            unfold Hold
            with_reducible rename News _ _ _ _ => N4
            refine m_itemL N4 hv8 hv0' (by decide) (by decide) ?_
            k_steps
            unfold Hold
            k_dflt ((refine' Mine.m_divK 60 (rfl : (60 : Int) = ((60 : Nat) : Int)) (by decide) (by decide) ?_); k_whole)
            k_steps
            unfold Hold
            with_reducible rename News _ _ _ _ => N4
            with_reducible rename NamesAt _ _ _ _ => hnm8
            refine m_lenL N4 hlm8 hc16 ?_
            k_steps
            unfold Hold
            have hyr : v0 / 60 % lv.length < s.rows.length := by rw [hlrl]; exact Nat.mod_lt _ hne
            k_dflt ((refine' Mine.m_modN _ (by rw [hlrl]; exact hne) ?_); k_whole)
            k_steps
            unfold Hold
            with_reducible rename Fr _ _ _ _ => F2
            with_reducible rename News _ _ _ _ => N2
            refine m_forT (x := Str.ofString "j") (lo := tupOf [Value.int (x9 : Int) _, Value.int ((v0 / 60 % lv.length : Nat) : Int) _] _) (vs := [Value.int (x9 : Int) _, Value.int ((v0 / 60 % lv.length : Nat) : Int) _]) (k := _) [] [] [] (SubJ news₁) rfl (.head _) rfl rfl F2 N2 (fun p hp => .tail _ hp) (fun _ h => nomatch h) ?_ ?_
            · intro I i v it h tk vals u news₁ hI9 hv hic hoff hlm hJ F3 N3 K hK
              have hb9 : ∀ p ∈ _, p ∈ news₁ := hJ
              refine hideG ?_
              intro P k9
              obtain ⟨j9, tj9, hj9, e9⟩ := two_vals hxr hyr hv
              subst e9
              obtain ⟨k, tk9, hk9, hk9'⟩ := laid_get hI hil hj9
              obtain ⟨tw9, hw9'⟩ := strs_at (ol := ol) (j := j9) (ol9 ▸ hj9)
              have hS9 : Shows s.R (nmOf ls (v0 / 4 % 15)) k 0 ((ol.map (·.1)).getD j9 (Str.ofString "")) (cs.getD j9 0) 101 := ho9 ▸ (round_shows hI hne 8 (Nat.le_refl _) j9 k hj9 hk9).up (Nat.le_refl _) (Nat.succ_le_succ (Nat.le_trans (Nat.le_of_lt hj9) hB.2))
              have hc9 := inv_cost hI hj9
              have hj63 : j9 < 100 := Nat.lt_of_lt_of_le hj9 hB.2
              generalize (ol.map (·.1)).getD j9 (Str.ofString "") = tx at hS9 hw9'
              refine k9 ?_
              clear k9 F2 N2 hv hI9 hyr hxr
              k_steps
              unfold Hold
              with_reducible rename News _ _ _ _ => N4
              refine m_itemL N4 (.tail _ (hb9 _ hl8)) hk9' (Int.natCast_nonneg _) (n63' (Nat.le_of_lt hj63) rfl) ?_
              k_steps
              unfold Hold
              k_dflt (refine' Ctl.u1 (c_show hE9 hS9 hc9) ?B ?F ?X ?N ?T ?hk ?hp ?d ?u ?_; walk_at "m_ctl"; (case hp => exact (fun p hp => .tail _ (hb9 p hp))))
              intro ts h9 tk9 news8 F9 N9 hk8
              have hw8 := hk8 _ (.tail _ (hb9 _ hw9))
              k_steps
              unfold Hold
              with_reducible rename News _ _ _ _ => N4
              refine m_itemL N4 hw8 hw9' (Int.natCast_nonneg _) (n63' (Nat.le_of_lt hj63) rfl) ?_
              k_steps
              · rename (_ != _) = true => hbad
                exact absurd hbad (by simp)
              unfold Hold KP
              exact hK .next _ (MEnd.of (by assumption) (by assumption) (hk8 _ (.head _)) (fun p hp => by rw [List.mem_singleton.mp hp]; exact hk8 _ (.tail _ hlm)) rfl (fun z g1 _ _ => (if_neg g1).trans rfl) (fun p hp => mem_offI.mpr ⟨hk8 _ (.tail _ (hb9 p hp)), hoff p (hb9 p hp)⟩))
            · intro vals u news₂ h tk hJ hlm F3 N3
              have hb9 : ∀ p ∈ _, p ∈ news₂ := hJ
              have hvn9 := hb9 _ hvn8
              clear F2 N2 hJ
              k_steps
              unfold Hold
              with_reducible rename News _ _ _ _ => N4
              k_dflt ((refine' Mine.m_addN (v0 / 4 % 15) 1 ?_); k_whole)
              k_steps
              unfold Hold
              k_dflt (refine' Ctl.u1 (c_names (turn := v0 / 4 % 15 + 1) (n1 := 0) hns hsl (Nat.le_trans ht15 (by decide)) hsm) ?B ?F ?X ?N ?T ?hk ?hp ?d ?u ?_; walk_at "m_ctl"; (case hp => exact hvn9))
              intro names2 h9 tk9 news8 F9 N9 p9
              have hnm2 := p9.1
              have hnl2 := nmOf_len ls (v0 / 4 % 15 + 1)
              clear p9
              k_steps
              unfold Hold
              k_dflt (refine' Ctl.u0 (c_lawful (a := v1 / 4 % 211) (b := v2 / 4 % 211) hnl2 ha hb) ?B ?F ?X ?N ?T ?hk ?hp ?d ?u ?_; walk_at "m_ctl"; (case hp => exact hnm2))
              intro h9 tk9 news9 F9 N9 hk8
              k_steps
end Mine

end
theorem PySem.Challenge.cw_xw0069_01_holds : PySem.Challenge.rw_xw0069_01.Holds :=
  Mine.x
