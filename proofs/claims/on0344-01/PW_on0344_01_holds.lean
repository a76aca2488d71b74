import PyProof.Rows.All
import Wide.All
import OpenK.AllK
import Wide.FinOn
import PySem.Challenge.RW_on0344_01
open PySem PySem.W PyProof.Rows
set_option Elab.async false
set_option maxRecDepth 100000
set_option maxHeartbeats 8000000
set_option linter.unusedSimpArgs false
set_option linter.unusedVariables false
namespace Mine
section
abbrev pg : Program := (PySem.Challenge.rw_on0344_01.row.toRowW).prog
/-- the i-th statement of the row's text, and the j-th of a class -/
noncomputable def stAt (i : Nat) : Stmt := match PySem.Challenge.pw_on0344_01.main.body[i]? with | some s => s | none => .Pass ⟨0, 0, 0, 0⟩
noncomputable def memAt (i j : Nat) : Stmt := match stAt i with | .ClassDef _ _ _ body _ _ _ _ _ _ _ => (match body[j]? with | some s => s | none => .Pass ⟨0, 0, 0, 0⟩) | s => s
noncomputable def fd (s : Stmt) (qual : Str) (a : Addr) (c : List (Str × Addr)) (v1 v2 v3 v4 : Value) (d : Option Addr) (v5 v6 : Value) (e : Addr) : FuncData := match s with
  | .FunctionDef n ps body _ _ _ sc _ _ _ => FuncData.mk n qual ps (.stmts body) sc a c v1 v2 v3 v4 d v5 v6 e
  | _ => FuncData.mk qual qual (Arguments.mk [] [] none [] [] none []) (.stmts []) (Scope.mk .function [] false false []) a c v1 v2 v3 v4 d v5 v6 e
noncomputable def env_41 : Env := Env.mk pg.main.scope mainNs mainNs [] Str.empty Option.none (Value.ref 13) (Option.some 14) 0
noncomputable def o_43 (P : Params) : Obj := Obj.mk (Value.type "tuple") Option.none (Data.seq (List.toArray []) 0) (List.toArray [])
noncomputable def o_44 (P : Params) : Obj := Obj.mk Value.none Option.none (Data.fields (List.toArray [])) (List.toArray [])
noncomputable def o_45 (P : Params) : Obj := Obj.mk (Value.type "code") Option.none (Data.fields (List.toArray [Value.str (Str.ofString "<module>") 182, Value.str (Str.ofString "<module>") 183, Value.str (Str.ofString "/claim/cut.py") 184, Value.int 1 0, Value.int 0 0, Value.int 0 0, Value.int 0 0, Value.int 0 0, Value.ref 11, Value.bool Bool.false, Value.int 181 0, Value.ref 12, Value.none, Value.none, Value.none, Value.none, Value.int 185 0, Value.int 1 0, Value.str (Str.ofString "/claim/cut.py") 186])) (List.toArray [])
noncomputable def o_46 (P : Params) : Obj := Obj.mk (Value.type "frame") Option.none Data.plain (List.toArray [Option.some (Value.ref 13), Option.some (Value.ref 3), Option.some (Value.ref 3), Option.none, Option.some (Value.str (Str.ofString "__main__") 164), Option.none, Option.some (Value.ref 0)])
noncomputable def o_51 (P : Params) : Obj := Obj.mk (Value.type "tuple") Option.none (Data.seq (List.toArray []) 0) (List.toArray [])
noncomputable def o_52 (P : Params) : Obj := Obj.mk Value.none Option.none (Data.fields (List.toArray [])) (List.toArray [])
noncomputable def o_53 (P : Params) : Obj := Obj.mk (Value.type "tuple") Option.none (Data.seq (List.toArray [Value.str (Str.ofString "k") 190]) 0) (List.toArray [])
noncomputable def o_54 (P : Params) : Obj := Obj.mk (Value.type "tuple") Option.none (Data.seq (List.toArray []) 0) (List.toArray [])
noncomputable def o_55 (P : Params) : Obj := Obj.mk Value.none Option.none (Data.func (fd (stAt 0) (Str.ofString "_wall") 0 [] Value.none Value.none Value.none Value.none Option.none Value.none Value.none 0)) (List.toArray [])
noncomputable def o_56 (P : Params) : Obj := Obj.mk (Value.type "code") Option.none (Data.fields (List.toArray [Value.str (Str.ofString "_wall") 187, Value.str (Str.ofString "_wall") 188, Value.str (Str.ofString "/claim/cut.py") 189, Value.int 1 0, Value.int 1 0, Value.int 0 0, Value.int 0 0, Value.int 3 0, Value.ref 15, Value.bool Bool.true, Value.int 181 0, Value.ref 16, Value.none, Value.ref 17, Value.ref 18, Value.ref 19, Value.int 191 0, Value.int 1 0, Value.str (Str.ofString "/claim/cut.py") 192])) (List.toArray [])
noncomputable def o_57 (P : Params) : Obj := Obj.mk (Value.type "function") Option.none (Data.func (fd (stAt 0) (Str.ofString "_wall") 3 [] Value.none Value.none Value.none (Value.str (Str.ofString "__main__") 164) Option.none (Value.ref 20) Value.none 0)) (List.toArray [])
noncomputable def o_60 (P : Params) : Obj := Obj.mk (Value.type "tuple") Option.none (Data.seq (List.toArray []) 0) (List.toArray [])
noncomputable def o_61 (P : Params) : Obj := Obj.mk (Value.type "builtin_function_or_method") Option.none (Data.fields (List.toArray [Value.builtin "type.__prepare__", Value.type "type"])) (List.toArray [])
noncomputable def o_62 (P : Params) : Obj := Obj.mk (Value.type "dict") Option.none (Data.dict (List.toArray [DictEntry.mk (PyData.keyHash P (Str.ofString "__module__")) (Value.str (Str.ofString "__module__") 205) (Value.str (Str.ofString "thinstack.ip_header") 194), DictEntry.mk (PyData.keyHash P (Str.ofString "__qualname__")) (Value.str (Str.ofString "__qualname__") 207) (Value.str (Str.ofString "IpHeader") 206), DictEntry.mk (PyData.keyHash P (Str.ofString "__firstlineno__")) (Value.str (Str.ofString "__firstlineno__") 209) (Value.int 6 208), DictEntry.mk (PyData.keyHash P (Str.ofString "__init__")) (Value.str (Str.ofString "__init__") 231) (Value.ref 36), DictEntry.mk (PyData.keyHash P (Str.ofString "size")) (Value.str (Str.ofString "size") 238) (Value.ref 43), DictEntry.mk (PyData.keyHash P (Str.ofString "is_fragment")) (Value.str (Str.ofString "is_fragment") 245) (Value.ref 50), DictEntry.mk (PyData.keyHash P (Str.ofString "is_first")) (Value.str (Str.ofString "is_first") 252) (Value.ref 57), DictEntry.mk (PyData.keyHash P (Str.ofString "part")) (Value.str (Str.ofString "part") 262) (Value.ref 64), DictEntry.mk (PyData.keyHash P (Str.ofString "row")) (Value.str (Str.ofString "row") 269) (Value.ref 71), DictEntry.mk (PyData.keyHash P (Str.ofString "__static_attributes__")) (Value.str (Str.ofString "__static_attributes__") 280) (Value.ref 72)]) 10) (List.toArray [])
noncomputable def o_63 (P : Params) : Obj := Obj.mk (Value.type "tuple") Option.none (Data.seq (List.toArray []) 0) (List.toArray [])
noncomputable def o_64 (P : Params) : Obj := Obj.mk Value.none Option.none (Data.fields (List.toArray [Value.int 8 0, Value.int 4 0, Value.ref 35, Value.int 20 0, Value.int 4 0, Value.ref 42, Value.int 23 0, Value.int 4 0, Value.ref 49, Value.int 26 0, Value.int 4 0, Value.ref 56, Value.int 29 0, Value.int 4 0, Value.ref 63, Value.int 32 0, Value.int 4 0, Value.ref 70])) (List.toArray [])
noncomputable def o_65 (P : Params) : Obj := Obj.mk (Value.type "code") Option.none (Data.fields (List.toArray [Value.str (Str.ofString "IpHeader") 200, Value.str (Str.ofString "IpHeader") 201, Value.str (Str.ofString "/claim/cut.py") 202, Value.int 6 0, Value.int 0 0, Value.int 0 0, Value.int 0 0, Value.int 0 0, Value.ref 25, Value.bool Bool.false, Value.int 181 0, Value.ref 26, Value.none, Value.none, Value.none, Value.none, Value.int 203 0, Value.int 6 0, Value.str (Str.ofString "/claim/cut.py") 204])) (List.toArray [])
noncomputable def o_66 (P : Params) : Obj := Obj.mk (Value.type "frame") Option.none Data.plain (List.toArray [Option.some (Value.ref 27), Option.some (Value.ref 3), Option.some (Value.ref 24), Option.none, Option.some (Value.str (Str.ofString "thinstack.ip_header") 194), Option.none, Option.some (Value.ref 0)])
noncomputable def o_67 (P : Params) : Obj := Obj.mk (Value.type "tuple") Option.none (Data.seq (List.toArray [Value.int 0 210, Value.int 64 211, Value.int 0 212, Value.bool Bool.false, Value.bool Bool.false, Value.int 0 213, Value.bytes (List.toArray []) 214]) 0) (List.toArray [])
noncomputable def o_68 (P : Params) : Obj := Obj.mk (Value.type "tuple") Option.none (Data.seq (List.toArray []) 0) (List.toArray [])
noncomputable def o_69 (P : Params) : Obj := Obj.mk Value.none Option.none (Data.fields (List.toArray [])) (List.toArray [])
noncomputable def o_70 (P : Params) : Obj := Obj.mk (Value.type "tuple") Option.none (Data.seq (List.toArray [Value.str (Str.ofString "self") 218, Value.str (Str.ofString "source") 219, Value.str (Str.ofString "target") 220, Value.str (Str.ofString "protocol") 221, Value.str (Str.ofString "ident") 222, Value.str (Str.ofString "ttl") 223, Value.str (Str.ofString "tos") 224, Value.str (Str.ofString "dont") 225, Value.str (Str.ofString "more") 226, Value.str (Str.ofString "offset") 227, Value.str (Str.ofString "options") 228]) 0) (List.toArray [])
noncomputable def o_71 (P : Params) : Obj := Obj.mk (Value.type "tuple") Option.none (Data.seq (List.toArray []) 0) (List.toArray [])
noncomputable def o_72 (P : Params) : Obj := Obj.mk Value.none Option.none (Data.func (fd (memAt 3 0) (Str.ofString "IpHeader.__init__") 0 [] Value.none Value.none Value.none Value.none Option.none Value.none Value.none 0)) (List.toArray [])
noncomputable def o_73 (P : Params) : Obj := Obj.mk (Value.type "code") Option.none (Data.fields (List.toArray [Value.str (Str.ofString "__init__") 215, Value.str (Str.ofString "IpHeader.__init__") 216, Value.str (Str.ofString "/claim/cut.py") 217, Value.int 8 0, Value.int 11 0, Value.int 0 0, Value.int 0 0, Value.int 3 0, Value.ref 30, Value.bool Bool.true, Value.int 181 0, Value.ref 31, Value.none, Value.ref 32, Value.ref 33, Value.ref 34, Value.int 229 0, Value.int 8 0, Value.str (Str.ofString "/claim/cut.py") 230])) (List.toArray [])
noncomputable def o_74 (P : Params) : Obj := Obj.mk (Value.type "function") Option.none (Data.func (fd (memAt 3 0) (Str.ofString "IpHeader.__init__") 3 [] (Value.ref 29) Value.none Value.none (Value.str (Str.ofString "thinstack.ip_header") 194) Option.none (Value.ref 35) Value.none 0)) (List.toArray [])
noncomputable def o_75 (P : Params) : Obj := Obj.mk (Value.type "tuple") Option.none (Data.seq (List.toArray []) 0) (List.toArray [])
noncomputable def o_76 (P : Params) : Obj := Obj.mk Value.none Option.none (Data.fields (List.toArray [])) (List.toArray [])
noncomputable def o_77 (P : Params) : Obj := Obj.mk (Value.type "tuple") Option.none (Data.seq (List.toArray [Value.str (Str.ofString "self") 235]) 0) (List.toArray [])
noncomputable def o_78 (P : Params) : Obj := Obj.mk (Value.type "tuple") Option.none (Data.seq (List.toArray []) 0) (List.toArray [])
noncomputable def o_79 (P : Params) : Obj := Obj.mk Value.none Option.none (Data.func (fd (memAt 3 1) (Str.ofString "IpHeader.size") 0 [] Value.none Value.none Value.none Value.none Option.none Value.none Value.none 0)) (List.toArray [])
noncomputable def o_80 (P : Params) : Obj := Obj.mk (Value.type "code") Option.none (Data.fields (List.toArray [Value.str (Str.ofString "size") 232, Value.str (Str.ofString "IpHeader.size") 233, Value.str (Str.ofString "/claim/cut.py") 234, Value.int 20 0, Value.int 1 0, Value.int 0 0, Value.int 0 0, Value.int 3 0, Value.ref 37, Value.bool Bool.true, Value.int 181 0, Value.ref 38, Value.none, Value.ref 39, Value.ref 40, Value.ref 41, Value.int 236 0, Value.int 20 0, Value.str (Str.ofString "/claim/cut.py") 237])) (List.toArray [])
noncomputable def o_81 (P : Params) : Obj := Obj.mk (Value.type "function") Option.none (Data.func (fd (memAt 3 1) (Str.ofString "IpHeader.size") 3 [] Value.none Value.none Value.none (Value.str (Str.ofString "thinstack.ip_header") 194) Option.none (Value.ref 42) Value.none 0)) (List.toArray [])
noncomputable def o_82 (P : Params) : Obj := Obj.mk (Value.type "tuple") Option.none (Data.seq (List.toArray []) 0) (List.toArray [])
noncomputable def o_83 (P : Params) : Obj := Obj.mk Value.none Option.none (Data.fields (List.toArray [])) (List.toArray [])
noncomputable def o_84 (P : Params) : Obj := Obj.mk (Value.type "tuple") Option.none (Data.seq (List.toArray [Value.str (Str.ofString "self") 242]) 0) (List.toArray [])
noncomputable def o_85 (P : Params) : Obj := Obj.mk (Value.type "tuple") Option.none (Data.seq (List.toArray []) 0) (List.toArray [])
noncomputable def o_86 (P : Params) : Obj := Obj.mk Value.none Option.none (Data.func (fd (memAt 3 2) (Str.ofString "IpHeader.is_fragment") 0 [] Value.none Value.none Value.none Value.none Option.none Value.none Value.none 0)) (List.toArray [])
noncomputable def o_87 (P : Params) : Obj := Obj.mk (Value.type "code") Option.none (Data.fields (List.toArray [Value.str (Str.ofString "is_fragment") 239, Value.str (Str.ofString "IpHeader.is_fragment") 240, Value.str (Str.ofString "/claim/cut.py") 241, Value.int 23 0, Value.int 1 0, Value.int 0 0, Value.int 0 0, Value.int 3 0, Value.ref 44, Value.bool Bool.true, Value.int 181 0, Value.ref 45, Value.none, Value.ref 46, Value.ref 47, Value.ref 48, Value.int 243 0, Value.int 23 0, Value.str (Str.ofString "/claim/cut.py") 244])) (List.toArray [])
noncomputable def o_88 (P : Params) : Obj := Obj.mk (Value.type "function") Option.none (Data.func (fd (memAt 3 2) (Str.ofString "IpHeader.is_fragment") 3 [] Value.none Value.none Value.none (Value.str (Str.ofString "thinstack.ip_header") 194) Option.none (Value.ref 49) Value.none 0)) (List.toArray [])
noncomputable def o_89 (P : Params) : Obj := Obj.mk (Value.type "tuple") Option.none (Data.seq (List.toArray []) 0) (List.toArray [])
noncomputable def o_90 (P : Params) : Obj := Obj.mk Value.none Option.none (Data.fields (List.toArray [])) (List.toArray [])
noncomputable def o_91 (P : Params) : Obj := Obj.mk (Value.type "tuple") Option.none (Data.seq (List.toArray [Value.str (Str.ofString "self") 249]) 0) (List.toArray [])
noncomputable def o_92 (P : Params) : Obj := Obj.mk (Value.type "tuple") Option.none (Data.seq (List.toArray []) 0) (List.toArray [])
noncomputable def o_93 (P : Params) : Obj := Obj.mk Value.none Option.none (Data.func (fd (memAt 3 3) (Str.ofString "IpHeader.is_first") 0 [] Value.none Value.none Value.none Value.none Option.none Value.none Value.none 0)) (List.toArray [])
noncomputable def o_94 (P : Params) : Obj := Obj.mk (Value.type "code") Option.none (Data.fields (List.toArray [Value.str (Str.ofString "is_first") 246, Value.str (Str.ofString "IpHeader.is_first") 247, Value.str (Str.ofString "/claim/cut.py") 248, Value.int 26 0, Value.int 1 0, Value.int 0 0, Value.int 0 0, Value.int 3 0, Value.ref 51, Value.bool Bool.true, Value.int 181 0, Value.ref 52, Value.none, Value.ref 53, Value.ref 54, Value.ref 55, Value.int 250 0, Value.int 26 0, Value.str (Str.ofString "/claim/cut.py") 251])) (List.toArray [])
noncomputable def o_95 (P : Params) : Obj := Obj.mk (Value.type "function") Option.none (Data.func (fd (memAt 3 3) (Str.ofString "IpHeader.is_first") 3 [] Value.none Value.none Value.none (Value.str (Str.ofString "thinstack.ip_header") 194) Option.none (Value.ref 56) Value.none 0)) (List.toArray [])
noncomputable def o_96 (P : Params) : Obj := Obj.mk (Value.type "tuple") Option.none (Data.seq (List.toArray []) 0) (List.toArray [])
noncomputable def o_97 (P : Params) : Obj := Obj.mk Value.none Option.none (Data.fields (List.toArray [])) (List.toArray [])
noncomputable def o_98 (P : Params) : Obj := Obj.mk (Value.type "tuple") Option.none (Data.seq (List.toArray [Value.str (Str.ofString "self") 256, Value.str (Str.ofString "more") 257, Value.str (Str.ofString "offset") 258, Value.str (Str.ofString "options") 259]) 0) (List.toArray [])
noncomputable def o_99 (P : Params) : Obj := Obj.mk (Value.type "tuple") Option.none (Data.seq (List.toArray []) 0) (List.toArray [])
noncomputable def o_100 (P : Params) : Obj := Obj.mk Value.none Option.none (Data.func (fd (memAt 3 4) (Str.ofString "IpHeader.part") 0 [] Value.none Value.none Value.none Value.none Option.none Value.none Value.none 0)) (List.toArray [])
noncomputable def o_101 (P : Params) : Obj := Obj.mk (Value.type "code") Option.none (Data.fields (List.toArray [Value.str (Str.ofString "part") 253, Value.str (Str.ofString "IpHeader.part") 254, Value.str (Str.ofString "/claim/cut.py") 255, Value.int 29 0, Value.int 4 0, Value.int 0 0, Value.int 0 0, Value.int 3 0, Value.ref 58, Value.bool Bool.true, Value.int 181 0, Value.ref 59, Value.none, Value.ref 60, Value.ref 61, Value.ref 62, Value.int 260 0, Value.int 29 0, Value.str (Str.ofString "/claim/cut.py") 261])) (List.toArray [])
noncomputable def o_102 (P : Params) : Obj := Obj.mk (Value.type "function") Option.none (Data.func (fd (memAt 3 4) (Str.ofString "IpHeader.part") 3 [] Value.none Value.none Value.none (Value.str (Str.ofString "thinstack.ip_header") 194) Option.none (Value.ref 63) Value.none 0)) (List.toArray [])
noncomputable def o_103 (P : Params) : Obj := Obj.mk (Value.type "tuple") Option.none (Data.seq (List.toArray []) 0) (List.toArray [])
noncomputable def o_104 (P : Params) : Obj := Obj.mk Value.none Option.none (Data.fields (List.toArray [])) (List.toArray [])
noncomputable def o_105 (P : Params) : Obj := Obj.mk (Value.type "tuple") Option.none (Data.seq (List.toArray [Value.str (Str.ofString "self") 266]) 0) (List.toArray [])
noncomputable def o_106 (P : Params) : Obj := Obj.mk (Value.type "tuple") Option.none (Data.seq (List.toArray []) 0) (List.toArray [])
noncomputable def o_107 (P : Params) : Obj := Obj.mk Value.none Option.none (Data.func (fd (memAt 3 5) (Str.ofString "IpHeader.row") 0 [] Value.none Value.none Value.none Value.none Option.none Value.none Value.none 0)) (List.toArray [])
noncomputable def o_108 (P : Params) : Obj := Obj.mk (Value.type "code") Option.none (Data.fields (List.toArray [Value.str (Str.ofString "row") 263, Value.str (Str.ofString "IpHeader.row") 264, Value.str (Str.ofString "/claim/cut.py") 265, Value.int 32 0, Value.int 1 0, Value.int 0 0, Value.int 0 0, Value.int 3 0, Value.ref 65, Value.bool Bool.true, Value.int 181 0, Value.ref 66, Value.none, Value.ref 67, Value.ref 68, Value.ref 69, Value.int 267 0, Value.int 32 0, Value.str (Str.ofString "/claim/cut.py") 268])) (List.toArray [])
noncomputable def o_109 (P : Params) : Obj := Obj.mk (Value.type "function") Option.none (Data.func (fd (memAt 3 5) (Str.ofString "IpHeader.row") 3 [] Value.none Value.none Value.none (Value.str (Str.ofString "thinstack.ip_header") 194) Option.none (Value.ref 70) Value.none 0)) (List.toArray [])
noncomputable def o_110 (P : Params) : Obj := Obj.mk (Value.type "tuple") Option.none (Data.seq (List.toArray [Value.str (Str.ofString "dont") 270, Value.str (Str.ofString "ident") 271, Value.str (Str.ofString "more") 272, Value.str (Str.ofString "offset") 273, Value.str (Str.ofString "options") 274, Value.str (Str.ofString "protocol") 275, Value.str (Str.ofString "source") 276, Value.str (Str.ofString "target") 277, Value.str (Str.ofString "tos") 278, Value.str (Str.ofString "ttl") 279]) 0) (List.toArray [])
noncomputable def o_111 (P : Params) : Obj := Obj.mk (Value.type "dict") Option.none (Data.dict (List.toArray [DictEntry.mk (PyData.keyHash P (Str.ofString "__module__")) (Value.str (Str.ofString "__module__") 205) (Value.str (Str.ofString "thinstack.ip_header") 194), DictEntry.mk (PyData.keyHash P (Str.ofString "__firstlineno__")) (Value.str (Str.ofString "__firstlineno__") 209) (Value.int 6 208), DictEntry.mk (PyData.keyHash P (Str.ofString "__init__")) (Value.str (Str.ofString "__init__") 231) (Value.ref 36), DictEntry.mk (PyData.keyHash P (Str.ofString "size")) (Value.str (Str.ofString "size") 238) (Value.ref 43), DictEntry.mk (PyData.keyHash P (Str.ofString "is_fragment")) (Value.str (Str.ofString "is_fragment") 245) (Value.ref 50), DictEntry.mk (PyData.keyHash P (Str.ofString "is_first")) (Value.str (Str.ofString "is_first") 252) (Value.ref 57), DictEntry.mk (PyData.keyHash P (Str.ofString "part")) (Value.str (Str.ofString "part") 262) (Value.ref 64), DictEntry.mk (PyData.keyHash P (Str.ofString "row")) (Value.str (Str.ofString "row") 269) (Value.ref 71), DictEntry.mk (PyData.keyHash P (Str.ofString "__static_attributes__")) (Value.str (Str.ofString "__static_attributes__") 280) (Value.ref 72), DictEntry.mk (PyData.keyHash P (Str.ofString "__dict__")) (Value.str (Str.ofString "__dict__") 282) (Value.ref 75), DictEntry.mk (PyData.keyHash P (Str.ofString "__weakref__")) (Value.str (Str.ofString "__weakref__") 284) (Value.ref 76), DictEntry.mk (PyData.keyHash P (Str.ofString "__doc__")) (Value.str (Str.ofString "__doc__") 285) Value.none]) 4) (List.toArray [])
noncomputable def o_112 (P : Params) : Obj := Obj.mk (Value.type "type") Option.none (Data.cls (ClassData.mk (Str.ofString "IpHeader") [Value.type "object"] [Value.ref 74, Value.type "object"] 73 (Str.ofString "IpHeader") Bool.true [] [] Bool.false Option.none Bool.false)) (List.toArray [Option.none, Option.none, Option.some (Value.str (Str.ofString "IpHeader") 198), Option.some (Value.str (Str.ofString "IpHeader") 206), Option.some (Value.builtin "object.__new__"), Option.some (Value.bool Bool.true)])
noncomputable def o_113 (P : Params) : Obj := Obj.mk (Value.type "getset_descriptor") Option.none (Data.fields (List.toArray [Value.str (Str.ofString "__dict__") 281, Value.ref 74, Value.builtin "function.__dict__", Value.builtin "function.__dict__#set"])) (List.toArray [])
noncomputable def o_114 (P : Params) : Obj := Obj.mk (Value.type "getset_descriptor") Option.none (Data.fields (List.toArray [Value.str (Str.ofString "__weakref__") 283, Value.ref 74, Value.builtin "ExceptionGroup.__weakref__", Value.none])) (List.toArray [])
noncomputable def o_115 (P : Params) : Obj := Obj.mk (Value.type "super") Option.none (Data.fields (List.toArray [Value.ref 74, Value.ref 74, Value.ref 74])) (List.toArray [])
noncomputable def o_116 (P : Params) : Obj := Obj.mk (Value.type "builtin_function_or_method") Option.none (Data.fields (List.toArray [Value.builtin "object.__init_subclass__", Value.ref 74])) (List.toArray [])
noncomputable def o_119 (P : Params) : Obj := Obj.mk (Value.type "tuple") Option.none (Data.seq (List.toArray []) 0) (List.toArray [])
noncomputable def o_120 (P : Params) : Obj := Obj.mk (Value.type "builtin_function_or_method") Option.none (Data.fields (List.toArray [Value.builtin "type.__prepare__", Value.type "type"])) (List.toArray [])
noncomputable def o_121 (P : Params) : Obj := Obj.mk (Value.type "dict") Option.none (Data.dict (List.toArray [DictEntry.mk (PyData.keyHash P (Str.ofString "__module__")) (Value.str (Str.ofString "__module__") 301) (Value.str (Str.ofString "thinstack.reassembly") 288), DictEntry.mk (PyData.keyHash P (Str.ofString "__qualname__")) (Value.str (Str.ofString "__qualname__") 303) (Value.str (Str.ofString "Holes") 302), DictEntry.mk (PyData.keyHash P (Str.ofString "__firstlineno__")) (Value.str (Str.ofString "__firstlineno__") 305) (Value.int 37 304), DictEntry.mk (PyData.keyHash P (Str.ofString "__init__")) (Value.str (Str.ofString "__init__") 313) (Value.ref 92), DictEntry.mk (PyData.keyHash P (Str.ofString "fill")) (Value.str (Str.ofString "fill") 328) (Value.ref 99), DictEntry.mk (PyData.keyHash P (Str.ofString "end_at")) (Value.str (Str.ofString "end_at") 336) (Value.ref 106), DictEntry.mk (PyData.keyHash P (Str.ofString "reach")) (Value.str (Str.ofString "reach") 343) (Value.ref 113), DictEntry.mk (PyData.keyHash P (Str.ofString "is_whole")) (Value.str (Str.ofString "is_whole") 350) (Value.ref 120), DictEntry.mk (PyData.keyHash P (Str.ofString "__static_attributes__")) (Value.str (Str.ofString "__static_attributes__") 353) (Value.ref 121)]) 9) (List.toArray [])
noncomputable def o_122 (P : Params) : Obj := Obj.mk (Value.type "tuple") Option.none (Data.seq (List.toArray []) 0) (List.toArray [])
noncomputable def o_123 (P : Params) : Obj := Obj.mk Value.none Option.none (Data.fields (List.toArray [Value.int 39 0, Value.int 4 0, Value.ref 91, Value.int 43 0, Value.int 4 0, Value.ref 98, Value.int 60 0, Value.int 4 0, Value.ref 105, Value.int 63 0, Value.int 4 0, Value.ref 112, Value.int 68 0, Value.int 4 0, Value.ref 119])) (List.toArray [])
noncomputable def o_124 (P : Params) : Obj := Obj.mk (Value.type "code") Option.none (Data.fields (List.toArray [Value.str (Str.ofString "Holes") 296, Value.str (Str.ofString "Holes") 297, Value.str (Str.ofString "/claim/cut.py") 298, Value.int 37 0, Value.int 0 0, Value.int 0 0, Value.int 0 0, Value.int 0 0, Value.ref 82, Value.bool Bool.false, Value.int 181 0, Value.ref 83, Value.none, Value.none, Value.none, Value.none, Value.int 299 0, Value.int 37 0, Value.str (Str.ofString "/claim/cut.py") 300])) (List.toArray [])
noncomputable def o_125 (P : Params) : Obj := Obj.mk (Value.type "frame") Option.none Data.plain (List.toArray [Option.some (Value.ref 84), Option.some (Value.ref 3), Option.some (Value.ref 81), Option.none, Option.some (Value.str (Str.ofString "thinstack.reassembly") 288), Option.none, Option.some (Value.ref 0)])
noncomputable def o_126 (P : Params) : Obj := Obj.mk (Value.type "tuple") Option.none (Data.seq (List.toArray []) 0) (List.toArray [])
noncomputable def o_127 (P : Params) : Obj := Obj.mk Value.none Option.none (Data.fields (List.toArray [])) (List.toArray [])
noncomputable def o_128 (P : Params) : Obj := Obj.mk (Value.type "tuple") Option.none (Data.seq (List.toArray [Value.str (Str.ofString "self") 309, Value.str (Str.ofString "most") 310]) 0) (List.toArray [])
noncomputable def o_129 (P : Params) : Obj := Obj.mk (Value.type "tuple") Option.none (Data.seq (List.toArray []) 0) (List.toArray [])
noncomputable def o_130 (P : Params) : Obj := Obj.mk Value.none Option.none (Data.func (fd (memAt 7 0) (Str.ofString "Holes.__init__") 0 [] Value.none Value.none Value.none Value.none Option.none Value.none Value.none 0)) (List.toArray [])
noncomputable def o_131 (P : Params) : Obj := Obj.mk (Value.type "code") Option.none (Data.fields (List.toArray [Value.str (Str.ofString "__init__") 306, Value.str (Str.ofString "Holes.__init__") 307, Value.str (Str.ofString "/claim/cut.py") 308, Value.int 39 0, Value.int 2 0, Value.int 0 0, Value.int 0 0, Value.int 3 0, Value.ref 86, Value.bool Bool.true, Value.int 181 0, Value.ref 87, Value.none, Value.ref 88, Value.ref 89, Value.ref 90, Value.int 311 0, Value.int 39 0, Value.str (Str.ofString "/claim/cut.py") 312])) (List.toArray [])
noncomputable def o_132 (P : Params) : Obj := Obj.mk (Value.type "function") Option.none (Data.func (fd (memAt 7 0) (Str.ofString "Holes.__init__") 3 [] Value.none Value.none Value.none (Value.str (Str.ofString "thinstack.reassembly") 288) Option.none (Value.ref 91) Value.none 0)) (List.toArray [])
noncomputable def o_133 (P : Params) : Obj := Obj.mk (Value.type "tuple") Option.none (Data.seq (List.toArray []) 0) (List.toArray [])
noncomputable def o_134 (P : Params) : Obj := Obj.mk Value.none Option.none (Data.fields (List.toArray [])) (List.toArray [])
noncomputable def o_135 (P : Params) : Obj := Obj.mk (Value.type "tuple") Option.none (Data.seq (List.toArray [Value.str (Str.ofString "self") 317, Value.str (Str.ofString "begin") 318, Value.str (Str.ofString "end") 319, Value.str (Str.ofString "found") 320, Value.str (Str.ofString "rows") 321, Value.str (Str.ofString "low") 322, Value.str (Str.ofString "high") 323, Value.str (Str.ofString "first") 324, Value.str (Str.ofString "last") 325]) 0) (List.toArray [])
noncomputable def o_136 (P : Params) : Obj := Obj.mk (Value.type "tuple") Option.none (Data.seq (List.toArray []) 0) (List.toArray [])
noncomputable def o_137 (P : Params) : Obj := Obj.mk Value.none Option.none (Data.func (fd (memAt 7 1) (Str.ofString "Holes.fill") 0 [] Value.none Value.none Value.none Value.none Option.none Value.none Value.none 0)) (List.toArray [])
noncomputable def o_138 (P : Params) : Obj := Obj.mk (Value.type "code") Option.none (Data.fields (List.toArray [Value.str (Str.ofString "fill") 314, Value.str (Str.ofString "Holes.fill") 315, Value.str (Str.ofString "/claim/cut.py") 316, Value.int 43 0, Value.int 3 0, Value.int 0 0, Value.int 0 0, Value.int 3 0, Value.ref 93, Value.bool Bool.true, Value.int 181 0, Value.ref 94, Value.none, Value.ref 95, Value.ref 96, Value.ref 97, Value.int 326 0, Value.int 43 0, Value.str (Str.ofString "/claim/cut.py") 327])) (List.toArray [])
noncomputable def o_139 (P : Params) : Obj := Obj.mk (Value.type "function") Option.none (Data.func (fd (memAt 7 1) (Str.ofString "Holes.fill") 3 [] Value.none Value.none Value.none (Value.str (Str.ofString "thinstack.reassembly") 288) Option.none (Value.ref 98) Value.none 0)) (List.toArray [])
noncomputable def o_140 (P : Params) : Obj := Obj.mk (Value.type "tuple") Option.none (Data.seq (List.toArray []) 0) (List.toArray [])
noncomputable def o_141 (P : Params) : Obj := Obj.mk Value.none Option.none (Data.fields (List.toArray [])) (List.toArray [])
noncomputable def o_142 (P : Params) : Obj := Obj.mk (Value.type "tuple") Option.none (Data.seq (List.toArray [Value.str (Str.ofString "self") 332, Value.str (Str.ofString "end") 333]) 0) (List.toArray [])
noncomputable def o_143 (P : Params) : Obj := Obj.mk (Value.type "tuple") Option.none (Data.seq (List.toArray []) 0) (List.toArray [])
noncomputable def o_144 (P : Params) : Obj := Obj.mk Value.none Option.none (Data.func (fd (memAt 7 2) (Str.ofString "Holes.end_at") 0 [] Value.none Value.none Value.none Value.none Option.none Value.none Value.none 0)) (List.toArray [])
noncomputable def o_145 (P : Params) : Obj := Obj.mk (Value.type "code") Option.none (Data.fields (List.toArray [Value.str (Str.ofString "end_at") 329, Value.str (Str.ofString "Holes.end_at") 330, Value.str (Str.ofString "/claim/cut.py") 331, Value.int 60 0, Value.int 2 0, Value.int 0 0, Value.int 0 0, Value.int 3 0, Value.ref 100, Value.bool Bool.true, Value.int 181 0, Value.ref 101, Value.none, Value.ref 102, Value.ref 103, Value.ref 104, Value.int 334 0, Value.int 60 0, Value.str (Str.ofString "/claim/cut.py") 335])) (List.toArray [])
noncomputable def o_146 (P : Params) : Obj := Obj.mk (Value.type "function") Option.none (Data.func (fd (memAt 7 2) (Str.ofString "Holes.end_at") 3 [] Value.none Value.none Value.none (Value.str (Str.ofString "thinstack.reassembly") 288) Option.none (Value.ref 105) Value.none 0)) (List.toArray [])
noncomputable def o_147 (P : Params) : Obj := Obj.mk (Value.type "tuple") Option.none (Data.seq (List.toArray []) 0) (List.toArray [])
noncomputable def o_148 (P : Params) : Obj := Obj.mk Value.none Option.none (Data.fields (List.toArray [])) (List.toArray [])
noncomputable def o_149 (P : Params) : Obj := Obj.mk (Value.type "tuple") Option.none (Data.seq (List.toArray [Value.str (Str.ofString "self") 340]) 0) (List.toArray [])
noncomputable def o_150 (P : Params) : Obj := Obj.mk (Value.type "tuple") Option.none (Data.seq (List.toArray []) 0) (List.toArray [])
noncomputable def o_151 (P : Params) : Obj := Obj.mk Value.none Option.none (Data.func (fd (memAt 7 3) (Str.ofString "Holes.reach") 0 [] Value.none Value.none Value.none Value.none Option.none Value.none Value.none 0)) (List.toArray [])
noncomputable def o_152 (P : Params) : Obj := Obj.mk (Value.type "code") Option.none (Data.fields (List.toArray [Value.str (Str.ofString "reach") 337, Value.str (Str.ofString "Holes.reach") 338, Value.str (Str.ofString "/claim/cut.py") 339, Value.int 63 0, Value.int 1 0, Value.int 0 0, Value.int 0 0, Value.int 3 0, Value.ref 107, Value.bool Bool.true, Value.int 181 0, Value.ref 108, Value.none, Value.ref 109, Value.ref 110, Value.ref 111, Value.int 341 0, Value.int 63 0, Value.str (Str.ofString "/claim/cut.py") 342])) (List.toArray [])
noncomputable def o_153 (P : Params) : Obj := Obj.mk (Value.type "function") Option.none (Data.func (fd (memAt 7 3) (Str.ofString "Holes.reach") 3 [] Value.none Value.none Value.none (Value.str (Str.ofString "thinstack.reassembly") 288) Option.none (Value.ref 112) Value.none 0)) (List.toArray [])
noncomputable def o_154 (P : Params) : Obj := Obj.mk (Value.type "tuple") Option.none (Data.seq (List.toArray []) 0) (List.toArray [])
noncomputable def o_155 (P : Params) : Obj := Obj.mk Value.none Option.none (Data.fields (List.toArray [])) (List.toArray [])
noncomputable def o_156 (P : Params) : Obj := Obj.mk (Value.type "tuple") Option.none (Data.seq (List.toArray [Value.str (Str.ofString "self") 347]) 0) (List.toArray [])
noncomputable def o_157 (P : Params) : Obj := Obj.mk (Value.type "tuple") Option.none (Data.seq (List.toArray []) 0) (List.toArray [])
noncomputable def o_158 (P : Params) : Obj := Obj.mk Value.none Option.none (Data.func (fd (memAt 7 4) (Str.ofString "Holes.is_whole") 0 [] Value.none Value.none Value.none Value.none Option.none Value.none Value.none 0)) (List.toArray [])
noncomputable def o_159 (P : Params) : Obj := Obj.mk (Value.type "code") Option.none (Data.fields (List.toArray [Value.str (Str.ofString "is_whole") 344, Value.str (Str.ofString "Holes.is_whole") 345, Value.str (Str.ofString "/claim/cut.py") 346, Value.int 68 0, Value.int 1 0, Value.int 0 0, Value.int 0 0, Value.int 3 0, Value.ref 114, Value.bool Bool.true, Value.int 181 0, Value.ref 115, Value.none, Value.ref 116, Value.ref 117, Value.ref 118, Value.int 348 0, Value.int 68 0, Value.str (Str.ofString "/claim/cut.py") 349])) (List.toArray [])
noncomputable def o_160 (P : Params) : Obj := Obj.mk (Value.type "function") Option.none (Data.func (fd (memAt 7 4) (Str.ofString "Holes.is_whole") 3 [] Value.none Value.none Value.none (Value.str (Str.ofString "thinstack.reassembly") 288) Option.none (Value.ref 119) Value.none 0)) (List.toArray [])
noncomputable def o_161 (P : Params) : Obj := Obj.mk (Value.type "tuple") Option.none (Data.seq (List.toArray [Value.str (Str.ofString "most") 351, Value.str (Str.ofString "rows") 352]) 0) (List.toArray [])
noncomputable def o_162 (P : Params) : Obj := Obj.mk (Value.type "dict") Option.none (Data.dict (List.toArray [DictEntry.mk (PyData.keyHash P (Str.ofString "__module__")) (Value.str (Str.ofString "__module__") 301) (Value.str (Str.ofString "thinstack.reassembly") 288), DictEntry.mk (PyData.keyHash P (Str.ofString "__firstlineno__")) (Value.str (Str.ofString "__firstlineno__") 305) (Value.int 37 304), DictEntry.mk (PyData.keyHash P (Str.ofString "__init__")) (Value.str (Str.ofString "__init__") 313) (Value.ref 92), DictEntry.mk (PyData.keyHash P (Str.ofString "fill")) (Value.str (Str.ofString "fill") 328) (Value.ref 99), DictEntry.mk (PyData.keyHash P (Str.ofString "end_at")) (Value.str (Str.ofString "end_at") 336) (Value.ref 106), DictEntry.mk (PyData.keyHash P (Str.ofString "reach")) (Value.str (Str.ofString "reach") 343) (Value.ref 113), DictEntry.mk (PyData.keyHash P (Str.ofString "is_whole")) (Value.str (Str.ofString "is_whole") 350) (Value.ref 120), DictEntry.mk (PyData.keyHash P (Str.ofString "__static_attributes__")) (Value.str (Str.ofString "__static_attributes__") 353) (Value.ref 121), DictEntry.mk (PyData.keyHash P (Str.ofString "__dict__")) (Value.str (Str.ofString "__dict__") 355) (Value.ref 124), DictEntry.mk (PyData.keyHash P (Str.ofString "__weakref__")) (Value.str (Str.ofString "__weakref__") 357) (Value.ref 125), DictEntry.mk (PyData.keyHash P (Str.ofString "__doc__")) (Value.str (Str.ofString "__doc__") 358) Value.none]) 4) (List.toArray [])
noncomputable def o_163 (P : Params) : Obj := Obj.mk (Value.type "type") Option.none (Data.cls (ClassData.mk (Str.ofString "Holes") [Value.type "object"] [Value.ref 123, Value.type "object"] 122 (Str.ofString "Holes") Bool.true [] [] Bool.false Option.none Bool.false)) (List.toArray [Option.none, Option.none, Option.some (Value.str (Str.ofString "Holes") 294), Option.some (Value.str (Str.ofString "Holes") 302), Option.some (Value.builtin "object.__new__"), Option.some (Value.bool Bool.true)])
noncomputable def o_164 (P : Params) : Obj := Obj.mk (Value.type "getset_descriptor") Option.none (Data.fields (List.toArray [Value.str (Str.ofString "__dict__") 354, Value.ref 123, Value.builtin "function.__dict__", Value.builtin "function.__dict__#set"])) (List.toArray [])
noncomputable def o_165 (P : Params) : Obj := Obj.mk (Value.type "getset_descriptor") Option.none (Data.fields (List.toArray [Value.str (Str.ofString "__weakref__") 356, Value.ref 123, Value.builtin "ExceptionGroup.__weakref__", Value.none])) (List.toArray [])
noncomputable def o_166 (P : Params) : Obj := Obj.mk (Value.type "super") Option.none (Data.fields (List.toArray [Value.ref 123, Value.ref 123, Value.ref 123])) (List.toArray [])
noncomputable def o_167 (P : Params) : Obj := Obj.mk (Value.type "builtin_function_or_method") Option.none (Data.fields (List.toArray [Value.builtin "object.__init_subclass__", Value.ref 123])) (List.toArray [])
noncomputable def o_168 (P : Params) : Obj := Obj.mk (Value.type "dict") Option.none (Data.dict (List.toArray [DictEntry.mk (PyData.keyHash P (Str.ofString "__name__")) (Value.str (Str.ofString "__name__") 165) (Value.str (Str.ofString "thinstack.reassembly") 288), DictEntry.mk (PyData.keyHash P (Str.ofString "__doc__")) (Value.str (Str.ofString "__doc__") 166) Value.none, DictEntry.mk (PyData.keyHash P (Str.ofString "__package__")) (Value.str (Str.ofString "__package__") 167) Value.none, DictEntry.mk (PyData.keyHash P (Str.ofString "__loader__")) (Value.str (Str.ofString "__loader__") 168) (Value.builtin "__main__.__loader__#opaque"), DictEntry.mk (PyData.keyHash P (Str.ofString "__spec__")) (Value.str (Str.ofString "__spec__") 169) Value.none, DictEntry.mk (PyData.keyHash P (Str.ofString "__annotations__")) (Value.str (Str.ofString "__annotations__") 170) (Value.ref 6), DictEntry.mk (PyData.keyHash P (Str.ofString "__builtins__")) (Value.str (Str.ofString "__builtins__") 171) (Value.ref 4), DictEntry.mk (PyData.keyHash P (Str.ofString "__file__")) (Value.str (Str.ofString "__file__") 173) (Value.str (Str.ofString "/claim/cut.py") 172), DictEntry.mk (PyData.keyHash P (Str.ofString "__cached__")) (Value.str (Str.ofString "__cached__") 174) Value.none, DictEntry.mk (PyData.keyHash P (Str.ofString "_wall")) (Value.str (Str.ofString "_wall") 193) (Value.ref 21), DictEntry.mk (PyData.keyHash P (Str.ofString "LEAST_HEAD")) (Value.str (Str.ofString "LEAST_HEAD") 197) (Value.int 20 196), DictEntry.mk (PyData.keyHash P (Str.ofString "IpHeader")) (Value.str (Str.ofString "IpHeader") 287) (Value.ref 74), DictEntry.mk (PyData.keyHash P (Str.ofString "STEP")) (Value.str (Str.ofString "STEP") 291) (Value.int 8 290), DictEntry.mk (PyData.keyHash P (Str.ofString "TOLD")) (Value.str (Str.ofString "TOLD") 293) (Value.int 8 292), DictEntry.mk (PyData.keyHash P (Str.ofString "Holes")) (Value.str (Str.ofString "Holes") 360) (Value.ref 123), DictEntry.mk (PyData.keyHash P (Str.ofString "Datagram")) (Value.str (Str.ofString "Datagram") 443) (Value.ref 177)]) 16) (List.toArray [])
noncomputable def o_169 (P : Params) : Obj := Obj.mk Value.none Option.none (Data.fields (List.toArray [Value.int 1 0, Value.int 0 0, Value.ref 20, Value.int 6 0, Value.int 0 0, Value.ref 27, Value.int 37 0, Value.int 0 0, Value.ref 84, Value.int 70 0, Value.int 0 0, Value.ref 133])) (List.toArray [])
noncomputable def o_170 (P : Params) : Obj := Obj.mk (Value.type "tuple") Option.none (Data.seq (List.toArray []) 0) (List.toArray [])
noncomputable def o_171 (P : Params) : Obj := Obj.mk (Value.type "builtin_function_or_method") Option.none (Data.fields (List.toArray [Value.builtin "type.__prepare__", Value.type "type"])) (List.toArray [])
noncomputable def o_172 (P : Params) : Obj := Obj.mk (Value.type "dict") Option.none (Data.dict (List.toArray [DictEntry.mk (PyData.keyHash P (Str.ofString "__module__")) (Value.str (Str.ofString "__module__") 368) (Value.str (Str.ofString "thinstack.reassembly") 288), DictEntry.mk (PyData.keyHash P (Str.ofString "__qualname__")) (Value.str (Str.ofString "__qualname__") 370) (Value.str (Str.ofString "Datagram") 369), DictEntry.mk (PyData.keyHash P (Str.ofString "__firstlineno__")) (Value.str (Str.ofString "__firstlineno__") 372) (Value.int 70 371), DictEntry.mk (PyData.keyHash P (Str.ofString "__init__")) (Value.str (Str.ofString "__init__") 381) (Value.ref 141), DictEntry.mk (PyData.keyHash P (Str.ofString "is_against")) (Value.str (Str.ofString "is_against") 391) (Value.ref 148), DictEntry.mk (PyData.keyHash P (Str.ofString "put")) (Value.str (Str.ofString "put") 404) (Value.ref 155), DictEntry.mk (PyData.keyHash P (Str.ofString "is_whole")) (Value.str (Str.ofString "is_whole") 411) (Value.ref 162), DictEntry.mk (PyData.keyHash P (Str.ofString "octets")) (Value.str (Str.ofString "octets") 417) (Value.ref 167), DictEntry.mk (PyData.keyHash P (Str.ofString "told_octets")) (Value.str (Str.ofString "told_octets") 427) (Value.ref 174), DictEntry.mk (PyData.keyHash P (Str.ofString "__static_attributes__")) (Value.str (Str.ofString "__static_attributes__") 436) (Value.ref 175)]) 10) (List.toArray [])
noncomputable def o_173 (P : Params) : Obj := Obj.mk (Value.type "tuple") Option.none (Data.seq (List.toArray []) 0) (List.toArray [])
noncomputable def o_174 (P : Params) : Obj := Obj.mk Value.none Option.none (Data.fields (List.toArray [Value.int 72 0, Value.int 4 0, Value.ref 140, Value.int 82 0, Value.int 4 0, Value.ref 147, Value.int 91 0, Value.int 4 0, Value.ref 154, Value.int 108 0, Value.int 4 0, Value.ref 161, Value.int 111 0, Value.int 4 0, Value.ref 166, Value.int 114 0, Value.int 4 0, Value.ref 173])) (List.toArray [])
noncomputable def o_175 (P : Params) : Obj := Obj.mk (Value.type "code") Option.none (Data.fields (List.toArray [Value.str (Str.ofString "Datagram") 363, Value.str (Str.ofString "Datagram") 364, Value.str (Str.ofString "/claim/cut.py") 365, Value.int 70 0, Value.int 0 0, Value.int 0 0, Value.int 0 0, Value.int 0 0, Value.ref 131, Value.bool Bool.false, Value.int 181 0, Value.ref 132, Value.none, Value.none, Value.none, Value.none, Value.int 366 0, Value.int 70 0, Value.str (Str.ofString "/claim/cut.py") 367])) (List.toArray [])
noncomputable def o_176 (P : Params) : Obj := Obj.mk (Value.type "frame") Option.none Data.plain (List.toArray [Option.some (Value.ref 133), Option.some (Value.ref 3), Option.some (Value.ref 130), Option.none, Option.some (Value.str (Str.ofString "thinstack.reassembly") 288), Option.none, Option.some (Value.ref 0)])
noncomputable def o_177 (P : Params) : Obj := Obj.mk (Value.type "tuple") Option.none (Data.seq (List.toArray []) 0) (List.toArray [])
noncomputable def o_178 (P : Params) : Obj := Obj.mk Value.none Option.none (Data.fields (List.toArray [])) (List.toArray [])
noncomputable def o_179 (P : Params) : Obj := Obj.mk (Value.type "tuple") Option.none (Data.seq (List.toArray [Value.str (Str.ofString "self") 376, Value.str (Str.ofString "began") 377, Value.str (Str.ofString "most") 378]) 0) (List.toArray [])
noncomputable def o_180 (P : Params) : Obj := Obj.mk (Value.type "tuple") Option.none (Data.seq (List.toArray []) 0) (List.toArray [])
noncomputable def o_181 (P : Params) : Obj := Obj.mk Value.none Option.none (Data.func (fd (memAt 8 0) (Str.ofString "Datagram.__init__") 0 [] Value.none Value.none Value.none Value.none Option.none Value.none Value.none 0)) (List.toArray [])
noncomputable def o_182 (P : Params) : Obj := Obj.mk (Value.type "code") Option.none (Data.fields (List.toArray [Value.str (Str.ofString "__init__") 373, Value.str (Str.ofString "Datagram.__init__") 374, Value.str (Str.ofString "/claim/cut.py") 375, Value.int 72 0, Value.int 3 0, Value.int 0 0, Value.int 0 0, Value.int 3 0, Value.ref 135, Value.bool Bool.true, Value.int 181 0, Value.ref 136, Value.none, Value.ref 137, Value.ref 138, Value.ref 139, Value.int 379 0, Value.int 72 0, Value.str (Str.ofString "/claim/cut.py") 380])) (List.toArray [])
noncomputable def o_183 (P : Params) : Obj := Obj.mk (Value.type "function") Option.none (Data.func (fd (memAt 8 0) (Str.ofString "Datagram.__init__") 3 [] Value.none Value.none Value.none (Value.str (Str.ofString "thinstack.reassembly") 288) Option.none (Value.ref 140) Value.none 0)) (List.toArray [])
noncomputable def o_184 (P : Params) : Obj := Obj.mk (Value.type "tuple") Option.none (Data.seq (List.toArray []) 0) (List.toArray [])
noncomputable def o_185 (P : Params) : Obj := Obj.mk Value.none Option.none (Data.fields (List.toArray [])) (List.toArray [])
noncomputable def o_186 (P : Params) : Obj := Obj.mk (Value.type "tuple") Option.none (Data.seq (List.toArray [Value.str (Str.ofString "self") 385, Value.str (Str.ofString "begin") 386, Value.str (Str.ofString "end") 387, Value.str (Str.ofString "more") 388]) 0) (List.toArray [])
noncomputable def o_187 (P : Params) : Obj := Obj.mk (Value.type "tuple") Option.none (Data.seq (List.toArray []) 0) (List.toArray [])
noncomputable def o_188 (P : Params) : Obj := Obj.mk Value.none Option.none (Data.func (fd (memAt 8 1) (Str.ofString "Datagram.is_against") 0 [] Value.none Value.none Value.none Value.none Option.none Value.none Value.none 0)) (List.toArray [])
noncomputable def o_189 (P : Params) : Obj := Obj.mk (Value.type "code") Option.none (Data.fields (List.toArray [Value.str (Str.ofString "is_against") 382, Value.str (Str.ofString "Datagram.is_against") 383, Value.str (Str.ofString "/claim/cut.py") 384, Value.int 82 0, Value.int 4 0, Value.int 0 0, Value.int 0 0, Value.int 3 0, Value.ref 142, Value.bool Bool.true, Value.int 181 0, Value.ref 143, Value.none, Value.ref 144, Value.ref 145, Value.ref 146, Value.int 389 0, Value.int 82 0, Value.str (Str.ofString "/claim/cut.py") 390])) (List.toArray [])
noncomputable def o_190 (P : Params) : Obj := Obj.mk (Value.type "function") Option.none (Data.func (fd (memAt 8 1) (Str.ofString "Datagram.is_against") 3 [] Value.none Value.none Value.none (Value.str (Str.ofString "thinstack.reassembly") 288) Option.none (Value.ref 147) Value.none 0)) (List.toArray [])
noncomputable def o_191 (P : Params) : Obj := Obj.mk (Value.type "tuple") Option.none (Data.seq (List.toArray []) 0) (List.toArray [])
noncomputable def o_192 (P : Params) : Obj := Obj.mk Value.none Option.none (Data.fields (List.toArray [])) (List.toArray [])
noncomputable def o_193 (P : Params) : Obj := Obj.mk (Value.type "tuple") Option.none (Data.seq (List.toArray [Value.str (Str.ofString "self") 395, Value.str (Str.ofString "header") 396, Value.str (Str.ofString "payload") 397, Value.str (Str.ofString "begin") 398, Value.str (Str.ofString "end") 399, Value.str (Str.ofString "low") 400, Value.str (Str.ofString "high") 401]) 0) (List.toArray [])
noncomputable def o_194 (P : Params) : Obj := Obj.mk (Value.type "tuple") Option.none (Data.seq (List.toArray []) 0) (List.toArray [])
noncomputable def o_195 (P : Params) : Obj := Obj.mk Value.none Option.none (Data.func (fd (memAt 8 2) (Str.ofString "Datagram.put") 0 [] Value.none Value.none Value.none Value.none Option.none Value.none Value.none 0)) (List.toArray [])
noncomputable def o_196 (P : Params) : Obj := Obj.mk (Value.type "code") Option.none (Data.fields (List.toArray [Value.str (Str.ofString "put") 392, Value.str (Str.ofString "Datagram.put") 393, Value.str (Str.ofString "/claim/cut.py") 394, Value.int 91 0, Value.int 3 0, Value.int 0 0, Value.int 0 0, Value.int 3 0, Value.ref 149, Value.bool Bool.true, Value.int 181 0, Value.ref 150, Value.none, Value.ref 151, Value.ref 152, Value.ref 153, Value.int 402 0, Value.int 91 0, Value.str (Str.ofString "/claim/cut.py") 403])) (List.toArray [])
noncomputable def o_197 (P : Params) : Obj := Obj.mk (Value.type "function") Option.none (Data.func (fd (memAt 8 2) (Str.ofString "Datagram.put") 3 [] Value.none Value.none Value.none (Value.str (Str.ofString "thinstack.reassembly") 288) Option.none (Value.ref 154) Value.none 0)) (List.toArray [])
noncomputable def o_198 (P : Params) : Obj := Obj.mk (Value.type "tuple") Option.none (Data.seq (List.toArray []) 0) (List.toArray [])
noncomputable def o_199 (P : Params) : Obj := Obj.mk Value.none Option.none (Data.fields (List.toArray [])) (List.toArray [])
noncomputable def o_200 (P : Params) : Obj := Obj.mk (Value.type "tuple") Option.none (Data.seq (List.toArray [Value.str (Str.ofString "self") 408]) 0) (List.toArray [])
noncomputable def o_201 (P : Params) : Obj := Obj.mk (Value.type "tuple") Option.none (Data.seq (List.toArray []) 0) (List.toArray [])
noncomputable def o_202 (P : Params) : Obj := Obj.mk Value.none Option.none (Data.func (fd (memAt 8 3) (Str.ofString "Datagram.is_whole") 0 [] Value.none Value.none Value.none Value.none Option.none Value.none Value.none 0)) (List.toArray [])
noncomputable def o_203 (P : Params) : Obj := Obj.mk (Value.type "code") Option.none (Data.fields (List.toArray [Value.str (Str.ofString "is_whole") 405, Value.str (Str.ofString "Datagram.is_whole") 406, Value.str (Str.ofString "/claim/cut.py") 407, Value.int 108 0, Value.int 1 0, Value.int 0 0, Value.int 0 0, Value.int 3 0, Value.ref 156, Value.bool Bool.true, Value.int 181 0, Value.ref 157, Value.none, Value.ref 158, Value.ref 159, Value.ref 160, Value.int 409 0, Value.int 108 0, Value.str (Str.ofString "/claim/cut.py") 410])) (List.toArray [])
noncomputable def o_204 (P : Params) : Obj := Obj.mk (Value.type "function") Option.none (Data.func (fd (memAt 8 3) (Str.ofString "Datagram.is_whole") 3 [] Value.none Value.none Value.none (Value.str (Str.ofString "thinstack.reassembly") 288) Option.none (Value.ref 161) Value.none 0)) (List.toArray [])
noncomputable def o_205 (P : Params) : Obj := Obj.mk (Value.type "tuple") Option.none (Data.seq (List.toArray []) 0) (List.toArray [])
noncomputable def o_206 (P : Params) : Obj := Obj.mk Value.none Option.none (Data.fields (List.toArray [])) (List.toArray [])
noncomputable def o_207 (P : Params) : Obj := Obj.mk Value.none Option.none (Data.func (fd (memAt 8 4) (Str.ofString "Datagram.octets") 0 [] Value.none Value.none Value.none Value.none Option.none Value.none Value.none 0)) (List.toArray [])
noncomputable def o_208 (P : Params) : Obj := Obj.mk (Value.type "code") Option.none (Data.fields (List.toArray [Value.str (Str.ofString "octets") 412, Value.str (Str.ofString "Datagram.octets") 413, Value.str (Str.ofString "/claim/cut.py") 414, Value.int 111 0, Value.int 1 0, Value.int 0 0, Value.int 0 0, Value.int 3 0, Value.ref 163, Value.bool Bool.true, Value.int 181 0, Value.ref 164, Value.none, Value.none, Value.none, Value.ref 165, Value.int 415 0, Value.int 111 0, Value.str (Str.ofString "/claim/cut.py") 416])) (List.toArray [])
noncomputable def o_209 (P : Params) : Obj := Obj.mk (Value.type "function") Option.none (Data.func (fd (memAt 8 4) (Str.ofString "Datagram.octets") 3 [] Value.none Value.none Value.none (Value.str (Str.ofString "thinstack.reassembly") 288) Option.none (Value.ref 166) Value.none 0)) (List.toArray [])
noncomputable def o_210 (P : Params) : Obj := Obj.mk (Value.type "tuple") Option.none (Data.seq (List.toArray []) 0) (List.toArray [])
noncomputable def o_211 (P : Params) : Obj := Obj.mk Value.none Option.none (Data.fields (List.toArray [])) (List.toArray [])
noncomputable def o_212 (P : Params) : Obj := Obj.mk (Value.type "tuple") Option.none (Data.seq (List.toArray [Value.str (Str.ofString "self") 421, Value.str (Str.ofString "found") 422, Value.str (Str.ofString "begin") 423, Value.str (Str.ofString "part") 424]) 0) (List.toArray [])
noncomputable def o_213 (P : Params) : Obj := Obj.mk (Value.type "tuple") Option.none (Data.seq (List.toArray []) 0) (List.toArray [])
noncomputable def o_214 (P : Params) : Obj := Obj.mk Value.none Option.none (Data.func (fd (memAt 8 5) (Str.ofString "Datagram.told_octets") 0 [] Value.none Value.none Value.none Value.none Option.none Value.none Value.none 0)) (List.toArray [])
noncomputable def o_215 (P : Params) : Obj := Obj.mk (Value.type "code") Option.none (Data.fields (List.toArray [Value.str (Str.ofString "told_octets") 418, Value.str (Str.ofString "Datagram.told_octets") 419, Value.str (Str.ofString "/claim/cut.py") 420, Value.int 114 0, Value.int 1 0, Value.int 0 0, Value.int 0 0, Value.int 3 0, Value.ref 168, Value.bool Bool.true, Value.int 181 0, Value.ref 169, Value.none, Value.ref 170, Value.ref 171, Value.ref 172, Value.int 425 0, Value.int 114 0, Value.str (Str.ofString "/claim/cut.py") 426])) (List.toArray [])
noncomputable def o_216 (P : Params) : Obj := Obj.mk (Value.type "function") Option.none (Data.func (fd (memAt 8 5) (Str.ofString "Datagram.told_octets") 3 [] Value.none Value.none Value.none (Value.str (Str.ofString "thinstack.reassembly") 288) Option.none (Value.ref 173) Value.none 0)) (List.toArray [])
noncomputable def o_217 (P : Params) : Obj := Obj.mk (Value.type "tuple") Option.none (Data.seq (List.toArray [Value.str (Str.ofString "ahead") 428, Value.str (Str.ofString "began") 429, Value.str (Str.ofString "end") 430, Value.str (Str.ofString "first") 431, Value.str (Str.ofString "holes") 432, Value.str (Str.ofString "most") 433, Value.str (Str.ofString "parts") 434, Value.str (Str.ofString "size") 435]) 0) (List.toArray [])
noncomputable def o_218 (P : Params) : Obj := Obj.mk (Value.type "dict") Option.none (Data.dict (List.toArray [DictEntry.mk (PyData.keyHash P (Str.ofString "__module__")) (Value.str (Str.ofString "__module__") 368) (Value.str (Str.ofString "thinstack.reassembly") 288), DictEntry.mk (PyData.keyHash P (Str.ofString "__firstlineno__")) (Value.str (Str.ofString "__firstlineno__") 372) (Value.int 70 371), DictEntry.mk (PyData.keyHash P (Str.ofString "__init__")) (Value.str (Str.ofString "__init__") 381) (Value.ref 141), DictEntry.mk (PyData.keyHash P (Str.ofString "is_against")) (Value.str (Str.ofString "is_against") 391) (Value.ref 148), DictEntry.mk (PyData.keyHash P (Str.ofString "put")) (Value.str (Str.ofString "put") 404) (Value.ref 155), DictEntry.mk (PyData.keyHash P (Str.ofString "is_whole")) (Value.str (Str.ofString "is_whole") 411) (Value.ref 162), DictEntry.mk (PyData.keyHash P (Str.ofString "octets")) (Value.str (Str.ofString "octets") 417) (Value.ref 167), DictEntry.mk (PyData.keyHash P (Str.ofString "told_octets")) (Value.str (Str.ofString "told_octets") 427) (Value.ref 174), DictEntry.mk (PyData.keyHash P (Str.ofString "__static_attributes__")) (Value.str (Str.ofString "__static_attributes__") 436) (Value.ref 175), DictEntry.mk (PyData.keyHash P (Str.ofString "__dict__")) (Value.str (Str.ofString "__dict__") 438) (Value.ref 178), DictEntry.mk (PyData.keyHash P (Str.ofString "__weakref__")) (Value.str (Str.ofString "__weakref__") 440) (Value.ref 179), DictEntry.mk (PyData.keyHash P (Str.ofString "__doc__")) (Value.str (Str.ofString "__doc__") 441) Value.none]) 4) (List.toArray [])
noncomputable def o_219 (P : Params) : Obj := Obj.mk (Value.type "type") Option.none (Data.cls (ClassData.mk (Str.ofString "Datagram") [Value.type "object"] [Value.ref 177, Value.type "object"] 176 (Str.ofString "Datagram") Bool.true [] [] Bool.false Option.none Bool.false)) (List.toArray [Option.none, Option.none, Option.some (Value.str (Str.ofString "Datagram") 361), Option.some (Value.str (Str.ofString "Datagram") 369), Option.some (Value.builtin "object.__new__"), Option.some (Value.bool Bool.true)])
noncomputable def o_220 (P : Params) : Obj := Obj.mk (Value.type "getset_descriptor") Option.none (Data.fields (List.toArray [Value.str (Str.ofString "__dict__") 437, Value.ref 177, Value.builtin "function.__dict__", Value.builtin "function.__dict__#set"])) (List.toArray [])
noncomputable def o_221 (P : Params) : Obj := Obj.mk (Value.type "getset_descriptor") Option.none (Data.fields (List.toArray [Value.str (Str.ofString "__weakref__") 439, Value.ref 177, Value.builtin "ExceptionGroup.__weakref__", Value.none])) (List.toArray [])
noncomputable def o_222 (P : Params) : Obj := Obj.mk (Value.type "super") Option.none (Data.fields (List.toArray [Value.ref 177, Value.ref 177, Value.ref 177])) (List.toArray [])
noncomputable def o_223 (P : Params) : Obj := Obj.mk (Value.type "builtin_function_or_method") Option.none (Data.fields (List.toArray [Value.builtin "object.__init_subclass__", Value.ref 177])) (List.toArray [])
noncomputable def o_226 (P : Params) : Obj := Obj.mk (Value.type "tuple") Option.none (Data.seq (List.toArray []) 0) (List.toArray [])
noncomputable def o_227 (P : Params) : Obj := Obj.mk Value.none Option.none (Data.fields (List.toArray [])) (List.toArray [])
noncomputable def o_228 (P : Params) : Obj := Obj.mk (Value.type "tuple") Option.none (Data.seq (List.toArray [Value.str (Str.ofString "header") 447]) 0) (List.toArray [])
noncomputable def o_229 (P : Params) : Obj := Obj.mk (Value.type "tuple") Option.none (Data.seq (List.toArray []) 0) (List.toArray [])
noncomputable def o_230 (P : Params) : Obj := Obj.mk Value.none Option.none (Data.func (fd (stAt 9) (Str.ofString "whole_header") 0 [] Value.none Value.none Value.none Value.none Option.none Value.none Value.none 0)) (List.toArray [])
noncomputable def o_231 (P : Params) : Obj := Obj.mk (Value.type "code") Option.none (Data.fields (List.toArray [Value.str (Str.ofString "whole_header") 444, Value.str (Str.ofString "whole_header") 445, Value.str (Str.ofString "/claim/cut.py") 446, Value.int 121 0, Value.int 1 0, Value.int 0 0, Value.int 0 0, Value.int 3 0, Value.ref 182, Value.bool Bool.true, Value.int 181 0, Value.ref 183, Value.none, Value.ref 184, Value.ref 185, Value.ref 186, Value.int 448 0, Value.int 121 0, Value.str (Str.ofString "/claim/cut.py") 449])) (List.toArray [])
noncomputable def o_232 (P : Params) : Obj := Obj.mk (Value.type "function") Option.none (Data.func (fd (stAt 9) (Str.ofString "whole_header") 3 [] Value.none Value.none Value.none (Value.str (Str.ofString "thinstack.reassembly") 288) Option.none (Value.ref 187) Value.none 0)) (List.toArray [])
noncomputable def o_233 (P : Params) : Obj := Obj.mk (Value.type "tuple") Option.none (Data.seq (List.toArray []) 0) (List.toArray [])
noncomputable def o_234 (P : Params) : Obj := Obj.mk Value.none Option.none (Data.fields (List.toArray [])) (List.toArray [])
noncomputable def o_235 (P : Params) : Obj := Obj.mk (Value.type "tuple") Option.none (Data.seq (List.toArray [Value.str (Str.ofString "header") 454]) 0) (List.toArray [])
noncomputable def o_236 (P : Params) : Obj := Obj.mk (Value.type "tuple") Option.none (Data.seq (List.toArray []) 0) (List.toArray [])
noncomputable def o_237 (P : Params) : Obj := Obj.mk Value.none Option.none (Data.func (fd (stAt 10) (Str.ofString "key_of") 0 [] Value.none Value.none Value.none Value.none Option.none Value.none Value.none 0)) (List.toArray [])
noncomputable def o_238 (P : Params) : Obj := Obj.mk (Value.type "code") Option.none (Data.fields (List.toArray [Value.str (Str.ofString "key_of") 451, Value.str (Str.ofString "key_of") 452, Value.str (Str.ofString "/claim/cut.py") 453, Value.int 123 0, Value.int 1 0, Value.int 0 0, Value.int 0 0, Value.int 3 0, Value.ref 189, Value.bool Bool.true, Value.int 181 0, Value.ref 190, Value.none, Value.ref 191, Value.ref 192, Value.ref 193, Value.int 455 0, Value.int 123 0, Value.str (Str.ofString "/claim/cut.py") 456])) (List.toArray [])
noncomputable def o_239 (P : Params) : Obj := Obj.mk (Value.type "function") Option.none (Data.func (fd (stAt 10) (Str.ofString "key_of") 3 [] Value.none Value.none Value.none (Value.str (Str.ofString "thinstack.reassembly") 288) Option.none (Value.ref 194) Value.none 0)) (List.toArray [])
noncomputable def o_240 (P : Params) : Obj := Obj.mk (Value.type "tuple") Option.none (Data.seq (List.toArray []) 0) (List.toArray [])
noncomputable def o_241 (P : Params) : Obj := Obj.mk Value.none Option.none (Data.fields (List.toArray [])) (List.toArray [])
noncomputable def o_242 (P : Params) : Obj := Obj.mk (Value.type "tuple") Option.none (Data.seq (List.toArray [Value.str (Str.ofString "header") 461, Value.str (Str.ofString "payload") 462]) 0) (List.toArray [])
noncomputable def o_243 (P : Params) : Obj := Obj.mk (Value.type "tuple") Option.none (Data.seq (List.toArray []) 0) (List.toArray [])
noncomputable def o_244 (P : Params) : Obj := Obj.mk Value.none Option.none (Data.func (fd (stAt 11) (Str.ofString "is_bad_piece") 0 [] Value.none Value.none Value.none Value.none Option.none Value.none Value.none 0)) (List.toArray [])
noncomputable def o_245 (P : Params) : Obj := Obj.mk (Value.type "code") Option.none (Data.fields (List.toArray [Value.str (Str.ofString "is_bad_piece") 458, Value.str (Str.ofString "is_bad_piece") 459, Value.str (Str.ofString "/claim/cut.py") 460, Value.int 125 0, Value.int 2 0, Value.int 0 0, Value.int 0 0, Value.int 3 0, Value.ref 196, Value.bool Bool.true, Value.int 181 0, Value.ref 197, Value.none, Value.ref 198, Value.ref 199, Value.ref 200, Value.int 463 0, Value.int 125 0, Value.str (Str.ofString "/claim/cut.py") 464])) (List.toArray [])
noncomputable def o_246 (P : Params) : Obj := Obj.mk (Value.type "function") Option.none (Data.func (fd (stAt 11) (Str.ofString "is_bad_piece") 3 [] Value.none Value.none Value.none (Value.str (Str.ofString "thinstack.reassembly") 288) Option.none (Value.ref 201) Value.none 0)) (List.toArray [])
noncomputable def o_249 (P : Params) : Obj := Obj.mk (Value.type "tuple") Option.none (Data.seq (List.toArray []) 0) (List.toArray [])
noncomputable def o_250 (P : Params) : Obj := Obj.mk (Value.type "builtin_function_or_method") Option.none (Data.fields (List.toArray [Value.builtin "type.__prepare__", Value.type "type"])) (List.toArray [])
noncomputable def o_251 (P : Params) : Obj := Obj.mk (Value.type "dict") Option.none (Data.dict (List.toArray [DictEntry.mk (PyData.keyHash P (Str.ofString "__module__")) (Value.str (Str.ofString "__module__") 473) (Value.str (Str.ofString "thinstack.reassembly") 288), DictEntry.mk (PyData.keyHash P (Str.ofString "__qualname__")) (Value.str (Str.ofString "__qualname__") 475) (Value.str (Str.ofString "Reassembly") 474), DictEntry.mk (PyData.keyHash P (Str.ofString "__firstlineno__")) (Value.str (Str.ofString "__firstlineno__") 477) (Value.int 127 476), DictEntry.mk (PyData.keyHash P (Str.ofString "__init__")) (Value.str (Str.ofString "__init__") 488) (Value.ref 217), DictEntry.mk (PyData.keyHash P (Str.ofString "put")) (Value.str (Str.ofString "put") 500) (Value.ref 224), DictEntry.mk (PyData.keyHash P (Str.ofString "stored")) (Value.str (Str.ofString "stored") 506) (Value.ref 229), DictEntry.mk (PyData.keyHash P (Str.ofString "count")) (Value.str (Str.ofString "count") 513) (Value.ref 236), DictEntry.mk (PyData.keyHash P (Str.ofString "make_room")) (Value.str (Str.ofString "make_room") 520) (Value.ref 243), DictEntry.mk (PyData.keyHash P (Str.ofString "expire")) (Value.str (Str.ofString "expire") 528) (Value.ref 250), DictEntry.mk (PyData.keyHash P (Str.ofString "next_time")) (Value.str (Str.ofString "next_time") 535) (Value.ref 257), DictEntry.mk (PyData.keyHash P (Str.ofString "__static_attributes__")) (Value.str (Str.ofString "__static_attributes__") 540) (Value.ref 258)]) 11) (List.toArray [])
noncomputable def o_252 (P : Params) : Obj := Obj.mk (Value.type "tuple") Option.none (Data.seq (List.toArray []) 0) (List.toArray [])
noncomputable def o_253 (P : Params) : Obj := Obj.mk Value.none Option.none (Data.fields (List.toArray [Value.int 129 0, Value.int 4 0, Value.ref 216, Value.int 135 0, Value.int 4 0, Value.ref 223, Value.int 153 0, Value.int 4 0, Value.ref 228, Value.int 156 0, Value.int 4 0, Value.ref 235, Value.int 159 0, Value.int 4 0, Value.ref 242, Value.int 163 0, Value.int 4 0, Value.ref 249, Value.int 166 0, Value.int 4 0, Value.ref 256])) (List.toArray [])
noncomputable def o_254 (P : Params) : Obj := Obj.mk (Value.type "code") Option.none (Data.fields (List.toArray [Value.str (Str.ofString "Reassembly") 468, Value.str (Str.ofString "Reassembly") 469, Value.str (Str.ofString "/claim/cut.py") 470, Value.int 127 0, Value.int 0 0, Value.int 0 0, Value.int 0 0, Value.int 0 0, Value.ref 206, Value.bool Bool.false, Value.int 181 0, Value.ref 207, Value.none, Value.none, Value.none, Value.none, Value.int 471 0, Value.int 127 0, Value.str (Str.ofString "/claim/cut.py") 472])) (List.toArray [])
noncomputable def o_255 (P : Params) : Obj := Obj.mk (Value.type "frame") Option.none Data.plain (List.toArray [Option.some (Value.ref 208), Option.some (Value.ref 3), Option.some (Value.ref 205), Option.none, Option.some (Value.str (Str.ofString "thinstack.reassembly") 288), Option.none, Option.some (Value.ref 0)])
noncomputable def o_256 (P : Params) : Obj := Obj.mk (Value.type "tuple") Option.none (Data.seq (List.toArray [Value.int 65535 478]) 0) (List.toArray [])
noncomputable def o_257 (P : Params) : Obj := Obj.mk (Value.type "tuple") Option.none (Data.seq (List.toArray []) 0) (List.toArray [])
noncomputable def o_258 (P : Params) : Obj := Obj.mk Value.none Option.none (Data.fields (List.toArray [])) (List.toArray [])
noncomputable def o_259 (P : Params) : Obj := Obj.mk (Value.type "tuple") Option.none (Data.seq (List.toArray [Value.str (Str.ofString "self") 482, Value.str (Str.ofString "time_limit") 483, Value.str (Str.ofString "most_octets") 484, Value.str (Str.ofString "most") 485]) 0) (List.toArray [])
noncomputable def o_260 (P : Params) : Obj := Obj.mk (Value.type "tuple") Option.none (Data.seq (List.toArray []) 0) (List.toArray [])
noncomputable def o_261 (P : Params) : Obj := Obj.mk Value.none Option.none (Data.func (fd (memAt 12 0) (Str.ofString "Reassembly.__init__") 0 [] Value.none Value.none Value.none Value.none Option.none Value.none Value.none 0)) (List.toArray [])
noncomputable def o_262 (P : Params) : Obj := Obj.mk (Value.type "code") Option.none (Data.fields (List.toArray [Value.str (Str.ofString "__init__") 479, Value.str (Str.ofString "Reassembly.__init__") 480, Value.str (Str.ofString "/claim/cut.py") 481, Value.int 129 0, Value.int 4 0, Value.int 0 0, Value.int 0 0, Value.int 3 0, Value.ref 211, Value.bool Bool.true, Value.int 181 0, Value.ref 212, Value.none, Value.ref 213, Value.ref 214, Value.ref 215, Value.int 486 0, Value.int 129 0, Value.str (Str.ofString "/claim/cut.py") 487])) (List.toArray [])
noncomputable def o_263 (P : Params) : Obj := Obj.mk (Value.type "function") Option.none (Data.func (fd (memAt 12 0) (Str.ofString "Reassembly.__init__") 3 [] (Value.ref 210) Value.none Value.none (Value.str (Str.ofString "thinstack.reassembly") 288) Option.none (Value.ref 216) Value.none 0)) (List.toArray [])
noncomputable def o_264 (P : Params) : Obj := Obj.mk (Value.type "tuple") Option.none (Data.seq (List.toArray []) 0) (List.toArray [])
noncomputable def o_265 (P : Params) : Obj := Obj.mk Value.none Option.none (Data.fields (List.toArray [])) (List.toArray [])
noncomputable def o_266 (P : Params) : Obj := Obj.mk (Value.type "tuple") Option.none (Data.seq (List.toArray [Value.str (Str.ofString "self") 492, Value.str (Str.ofString "header") 493, Value.str (Str.ofString "payload") 494, Value.str (Str.ofString "now") 495, Value.str (Str.ofString "key") 496, Value.str (Str.ofString "found") 497]) 0) (List.toArray [])
noncomputable def o_267 (P : Params) : Obj := Obj.mk (Value.type "tuple") Option.none (Data.seq (List.toArray []) 0) (List.toArray [])
noncomputable def o_268 (P : Params) : Obj := Obj.mk Value.none Option.none (Data.func (fd (memAt 12 1) (Str.ofString "Reassembly.put") 0 [] Value.none Value.none Value.none Value.none Option.none Value.none Value.none 0)) (List.toArray [])
noncomputable def o_269 (P : Params) : Obj := Obj.mk (Value.type "code") Option.none (Data.fields (List.toArray [Value.str (Str.ofString "put") 489, Value.str (Str.ofString "Reassembly.put") 490, Value.str (Str.ofString "/claim/cut.py") 491, Value.int 135 0, Value.int 4 0, Value.int 0 0, Value.int 0 0, Value.int 3 0, Value.ref 218, Value.bool Bool.true, Value.int 181 0, Value.ref 219, Value.none, Value.ref 220, Value.ref 221, Value.ref 222, Value.int 498 0, Value.int 135 0, Value.str (Str.ofString "/claim/cut.py") 499])) (List.toArray [])
noncomputable def o_270 (P : Params) : Obj := Obj.mk (Value.type "function") Option.none (Data.func (fd (memAt 12 1) (Str.ofString "Reassembly.put") 3 [] Value.none Value.none Value.none (Value.str (Str.ofString "thinstack.reassembly") 288) Option.none (Value.ref 223) Value.none 0)) (List.toArray [])
noncomputable def o_271 (P : Params) : Obj := Obj.mk (Value.type "tuple") Option.none (Data.seq (List.toArray []) 0) (List.toArray [])
noncomputable def o_272 (P : Params) : Obj := Obj.mk Value.none Option.none (Data.fields (List.toArray [])) (List.toArray [])
noncomputable def o_273 (P : Params) : Obj := Obj.mk Value.none Option.none (Data.func (fd (memAt 12 2) (Str.ofString "Reassembly.stored") 0 [] Value.none Value.none Value.none Value.none Option.none Value.none Value.none 0)) (List.toArray [])
noncomputable def o_274 (P : Params) : Obj := Obj.mk (Value.type "code") Option.none (Data.fields (List.toArray [Value.str (Str.ofString "stored") 501, Value.str (Str.ofString "Reassembly.stored") 502, Value.str (Str.ofString "/claim/cut.py") 503, Value.int 153 0, Value.int 1 0, Value.int 0 0, Value.int 0 0, Value.int 3 0, Value.ref 225, Value.bool Bool.true, Value.int 181 0, Value.ref 226, Value.none, Value.none, Value.none, Value.ref 227, Value.int 504 0, Value.int 153 0, Value.str (Str.ofString "/claim/cut.py") 505])) (List.toArray [])
noncomputable def o_275 (P : Params) : Obj := Obj.mk (Value.type "function") Option.none (Data.func (fd (memAt 12 2) (Str.ofString "Reassembly.stored") 3 [] Value.none Value.none Value.none (Value.str (Str.ofString "thinstack.reassembly") 288) Option.none (Value.ref 228) Value.none 0)) (List.toArray [])
noncomputable def o_276 (P : Params) : Obj := Obj.mk (Value.type "tuple") Option.none (Data.seq (List.toArray []) 0) (List.toArray [])
noncomputable def o_277 (P : Params) : Obj := Obj.mk Value.none Option.none (Data.fields (List.toArray [])) (List.toArray [])
noncomputable def o_278 (P : Params) : Obj := Obj.mk (Value.type "tuple") Option.none (Data.seq (List.toArray [Value.str (Str.ofString "self") 510]) 0) (List.toArray [])
noncomputable def o_279 (P : Params) : Obj := Obj.mk (Value.type "tuple") Option.none (Data.seq (List.toArray []) 0) (List.toArray [])
noncomputable def o_280 (P : Params) : Obj := Obj.mk Value.none Option.none (Data.func (fd (memAt 12 3) (Str.ofString "Reassembly.count") 0 [] Value.none Value.none Value.none Value.none Option.none Value.none Value.none 0)) (List.toArray [])
noncomputable def o_281 (P : Params) : Obj := Obj.mk (Value.type "code") Option.none (Data.fields (List.toArray [Value.str (Str.ofString "count") 507, Value.str (Str.ofString "Reassembly.count") 508, Value.str (Str.ofString "/claim/cut.py") 509, Value.int 156 0, Value.int 1 0, Value.int 0 0, Value.int 0 0, Value.int 3 0, Value.ref 230, Value.bool Bool.true, Value.int 181 0, Value.ref 231, Value.none, Value.ref 232, Value.ref 233, Value.ref 234, Value.int 511 0, Value.int 156 0, Value.str (Str.ofString "/claim/cut.py") 512])) (List.toArray [])
noncomputable def o_282 (P : Params) : Obj := Obj.mk (Value.type "function") Option.none (Data.func (fd (memAt 12 3) (Str.ofString "Reassembly.count") 3 [] Value.none Value.none Value.none (Value.str (Str.ofString "thinstack.reassembly") 288) Option.none (Value.ref 235) Value.none 0)) (List.toArray [])
noncomputable def o_283 (P : Params) : Obj := Obj.mk (Value.type "tuple") Option.none (Data.seq (List.toArray []) 0) (List.toArray [])
noncomputable def o_284 (P : Params) : Obj := Obj.mk Value.none Option.none (Data.fields (List.toArray [])) (List.toArray [])
noncomputable def o_285 (P : Params) : Obj := Obj.mk (Value.type "tuple") Option.none (Data.seq (List.toArray [Value.str (Str.ofString "self") 517]) 0) (List.toArray [])
noncomputable def o_286 (P : Params) : Obj := Obj.mk (Value.type "tuple") Option.none (Data.seq (List.toArray []) 0) (List.toArray [])
noncomputable def o_287 (P : Params) : Obj := Obj.mk Value.none Option.none (Data.func (fd (memAt 12 4) (Str.ofString "Reassembly.make_room") 0 [] Value.none Value.none Value.none Value.none Option.none Value.none Value.none 0)) (List.toArray [])
noncomputable def o_288 (P : Params) : Obj := Obj.mk (Value.type "code") Option.none (Data.fields (List.toArray [Value.str (Str.ofString "make_room") 514, Value.str (Str.ofString "Reassembly.make_room") 515, Value.str (Str.ofString "/claim/cut.py") 516, Value.int 159 0, Value.int 1 0, Value.int 0 0, Value.int 0 0, Value.int 3 0, Value.ref 237, Value.bool Bool.true, Value.int 181 0, Value.ref 238, Value.none, Value.ref 239, Value.ref 240, Value.ref 241, Value.int 518 0, Value.int 159 0, Value.str (Str.ofString "/claim/cut.py") 519])) (List.toArray [])
noncomputable def o_289 (P : Params) : Obj := Obj.mk (Value.type "function") Option.none (Data.func (fd (memAt 12 4) (Str.ofString "Reassembly.make_room") 3 [] Value.none Value.none Value.none (Value.str (Str.ofString "thinstack.reassembly") 288) Option.none (Value.ref 242) Value.none 0)) (List.toArray [])
noncomputable def o_290 (P : Params) : Obj := Obj.mk (Value.type "tuple") Option.none (Data.seq (List.toArray []) 0) (List.toArray [])
noncomputable def o_291 (P : Params) : Obj := Obj.mk Value.none Option.none (Data.fields (List.toArray [])) (List.toArray [])
noncomputable def o_292 (P : Params) : Obj := Obj.mk (Value.type "tuple") Option.none (Data.seq (List.toArray [Value.str (Str.ofString "self") 524, Value.str (Str.ofString "now") 525]) 0) (List.toArray [])
noncomputable def o_293 (P : Params) : Obj := Obj.mk (Value.type "tuple") Option.none (Data.seq (List.toArray []) 0) (List.toArray [])
noncomputable def o_294 (P : Params) : Obj := Obj.mk Value.none Option.none (Data.func (fd (memAt 12 5) (Str.ofString "Reassembly.expire") 0 [] Value.none Value.none Value.none Value.none Option.none Value.none Value.none 0)) (List.toArray [])
noncomputable def o_295 (P : Params) : Obj := Obj.mk (Value.type "code") Option.none (Data.fields (List.toArray [Value.str (Str.ofString "expire") 521, Value.str (Str.ofString "Reassembly.expire") 522, Value.str (Str.ofString "/claim/cut.py") 523, Value.int 163 0, Value.int 2 0, Value.int 0 0, Value.int 0 0, Value.int 3 0, Value.ref 244, Value.bool Bool.true, Value.int 181 0, Value.ref 245, Value.none, Value.ref 246, Value.ref 247, Value.ref 248, Value.int 526 0, Value.int 163 0, Value.str (Str.ofString "/claim/cut.py") 527])) (List.toArray [])
noncomputable def o_296 (P : Params) : Obj := Obj.mk (Value.type "function") Option.none (Data.func (fd (memAt 12 5) (Str.ofString "Reassembly.expire") 3 [] Value.none Value.none Value.none (Value.str (Str.ofString "thinstack.reassembly") 288) Option.none (Value.ref 249) Value.none 0)) (List.toArray [])
noncomputable def o_297 (P : Params) : Obj := Obj.mk (Value.type "tuple") Option.none (Data.seq (List.toArray []) 0) (List.toArray [])
noncomputable def o_298 (P : Params) : Obj := Obj.mk Value.none Option.none (Data.fields (List.toArray [])) (List.toArray [])
noncomputable def o_299 (P : Params) : Obj := Obj.mk (Value.type "tuple") Option.none (Data.seq (List.toArray [Value.str (Str.ofString "self") 532]) 0) (List.toArray [])
noncomputable def o_300 (P : Params) : Obj := Obj.mk (Value.type "tuple") Option.none (Data.seq (List.toArray []) 0) (List.toArray [])
noncomputable def o_301 (P : Params) : Obj := Obj.mk Value.none Option.none (Data.func (fd (memAt 12 6) (Str.ofString "Reassembly.next_time") 0 [] Value.none Value.none Value.none Value.none Option.none Value.none Value.none 0)) (List.toArray [])
noncomputable def o_302 (P : Params) : Obj := Obj.mk (Value.type "code") Option.none (Data.fields (List.toArray [Value.str (Str.ofString "next_time") 529, Value.str (Str.ofString "Reassembly.next_time") 530, Value.str (Str.ofString "/claim/cut.py") 531, Value.int 166 0, Value.int 1 0, Value.int 0 0, Value.int 0 0, Value.int 3 0, Value.ref 251, Value.bool Bool.true, Value.int 181 0, Value.ref 252, Value.none, Value.ref 253, Value.ref 254, Value.ref 255, Value.int 533 0, Value.int 166 0, Value.str (Str.ofString "/claim/cut.py") 534])) (List.toArray [])
noncomputable def o_303 (P : Params) : Obj := Obj.mk (Value.type "function") Option.none (Data.func (fd (memAt 12 6) (Str.ofString "Reassembly.next_time") 3 [] Value.none Value.none Value.none (Value.str (Str.ofString "thinstack.reassembly") 288) Option.none (Value.ref 256) Value.none 0)) (List.toArray [])
noncomputable def o_304 (P : Params) : Obj := Obj.mk (Value.type "tuple") Option.none (Data.seq (List.toArray [Value.str (Str.ofString "most") 536, Value.str (Str.ofString "most_octets") 537, Value.str (Str.ofString "time_limit") 538, Value.str (Str.ofString "waiting") 539]) 0) (List.toArray [])
noncomputable def o_305 (P : Params) : Obj := Obj.mk (Value.type "dict") Option.none (Data.dict (List.toArray [DictEntry.mk (PyData.keyHash P (Str.ofString "__module__")) (Value.str (Str.ofString "__module__") 473) (Value.str (Str.ofString "thinstack.reassembly") 288), DictEntry.mk (PyData.keyHash P (Str.ofString "__firstlineno__")) (Value.str (Str.ofString "__firstlineno__") 477) (Value.int 127 476), DictEntry.mk (PyData.keyHash P (Str.ofString "__init__")) (Value.str (Str.ofString "__init__") 488) (Value.ref 217), DictEntry.mk (PyData.keyHash P (Str.ofString "put")) (Value.str (Str.ofString "put") 500) (Value.ref 224), DictEntry.mk (PyData.keyHash P (Str.ofString "stored")) (Value.str (Str.ofString "stored") 506) (Value.ref 229), DictEntry.mk (PyData.keyHash P (Str.ofString "count")) (Value.str (Str.ofString "count") 513) (Value.ref 236), DictEntry.mk (PyData.keyHash P (Str.ofString "make_room")) (Value.str (Str.ofString "make_room") 520) (Value.ref 243), DictEntry.mk (PyData.keyHash P (Str.ofString "expire")) (Value.str (Str.ofString "expire") 528) (Value.ref 250), DictEntry.mk (PyData.keyHash P (Str.ofString "next_time")) (Value.str (Str.ofString "next_time") 535) (Value.ref 257), DictEntry.mk (PyData.keyHash P (Str.ofString "__static_attributes__")) (Value.str (Str.ofString "__static_attributes__") 540) (Value.ref 258), DictEntry.mk (PyData.keyHash P (Str.ofString "__dict__")) (Value.str (Str.ofString "__dict__") 542) (Value.ref 261), DictEntry.mk (PyData.keyHash P (Str.ofString "__weakref__")) (Value.str (Str.ofString "__weakref__") 544) (Value.ref 262), DictEntry.mk (PyData.keyHash P (Str.ofString "__doc__")) (Value.str (Str.ofString "__doc__") 545) Value.none]) 4) (List.toArray [])
noncomputable def o_306 (P : Params) : Obj := Obj.mk (Value.type "type") Option.none (Data.cls (ClassData.mk (Str.ofString "Reassembly") [Value.type "object"] [Value.ref 260, Value.type "object"] 259 (Str.ofString "Reassembly") Bool.true [] [] Bool.false Option.none Bool.false)) (List.toArray [Option.none, Option.none, Option.some (Value.str (Str.ofString "Reassembly") 466), Option.some (Value.str (Str.ofString "Reassembly") 474), Option.some (Value.builtin "object.__new__"), Option.some (Value.bool Bool.true)])
noncomputable def o_307 (P : Params) : Obj := Obj.mk (Value.type "getset_descriptor") Option.none (Data.fields (List.toArray [Value.str (Str.ofString "__dict__") 541, Value.ref 260, Value.builtin "function.__dict__", Value.builtin "function.__dict__#set"])) (List.toArray [])
noncomputable def o_308 (P : Params) : Obj := Obj.mk (Value.type "getset_descriptor") Option.none (Data.fields (List.toArray [Value.str (Str.ofString "__weakref__") 543, Value.ref 260, Value.builtin "ExceptionGroup.__weakref__", Value.none])) (List.toArray [])
noncomputable def o_309 (P : Params) : Obj := Obj.mk (Value.type "super") Option.none (Data.fields (List.toArray [Value.ref 260, Value.ref 260, Value.ref 260])) (List.toArray [])
noncomputable def o_310 (P : Params) : Obj := Obj.mk (Value.type "builtin_function_or_method") Option.none (Data.fields (List.toArray [Value.builtin "object.__init_subclass__", Value.ref 260])) (List.toArray [])
noncomputable def o_311 (P : Params) : Obj := Obj.mk (Value.type "dict") Option.none (Data.dict (List.toArray [DictEntry.mk (PyData.keyHash P (Str.ofString "__name__")) (Value.str (Str.ofString "__name__") 165) (Value.str (Str.ofString "law_on0344_01") 548), DictEntry.mk (PyData.keyHash P (Str.ofString "__doc__")) (Value.str (Str.ofString "__doc__") 166) Value.none, DictEntry.mk (PyData.keyHash P (Str.ofString "__package__")) (Value.str (Str.ofString "__package__") 167) Value.none, DictEntry.mk (PyData.keyHash P (Str.ofString "__loader__")) (Value.str (Str.ofString "__loader__") 168) (Value.builtin "__main__.__loader__#opaque"), DictEntry.mk (PyData.keyHash P (Str.ofString "__spec__")) (Value.str (Str.ofString "__spec__") 169) Value.none, DictEntry.mk (PyData.keyHash P (Str.ofString "__annotations__")) (Value.str (Str.ofString "__annotations__") 170) (Value.ref 6), DictEntry.mk (PyData.keyHash P (Str.ofString "__builtins__")) (Value.str (Str.ofString "__builtins__") 171) (Value.ref 4), DictEntry.mk (PyData.keyHash P (Str.ofString "__file__")) (Value.str (Str.ofString "__file__") 173) (Value.str (Str.ofString "/claim/cut.py") 172), DictEntry.mk (PyData.keyHash P (Str.ofString "__cached__")) (Value.str (Str.ofString "__cached__") 174) Value.none, DictEntry.mk (PyData.keyHash P (Str.ofString "_wall")) (Value.str (Str.ofString "_wall") 193) (Value.ref 21), DictEntry.mk (PyData.keyHash P (Str.ofString "LEAST_HEAD")) (Value.str (Str.ofString "LEAST_HEAD") 197) (Value.int 20 196), DictEntry.mk (PyData.keyHash P (Str.ofString "IpHeader")) (Value.str (Str.ofString "IpHeader") 287) (Value.ref 74), DictEntry.mk (PyData.keyHash P (Str.ofString "STEP")) (Value.str (Str.ofString "STEP") 291) (Value.int 8 290), DictEntry.mk (PyData.keyHash P (Str.ofString "TOLD")) (Value.str (Str.ofString "TOLD") 293) (Value.int 8 292), DictEntry.mk (PyData.keyHash P (Str.ofString "Holes")) (Value.str (Str.ofString "Holes") 360) (Value.ref 123), DictEntry.mk (PyData.keyHash P (Str.ofString "Datagram")) (Value.str (Str.ofString "Datagram") 443) (Value.ref 177), DictEntry.mk (PyData.keyHash P (Str.ofString "whole_header")) (Value.str (Str.ofString "whole_header") 450) (Value.ref 188), DictEntry.mk (PyData.keyHash P (Str.ofString "key_of")) (Value.str (Str.ofString "key_of") 457) (Value.ref 195), DictEntry.mk (PyData.keyHash P (Str.ofString "is_bad_piece")) (Value.str (Str.ofString "is_bad_piece") 465) (Value.ref 202), DictEntry.mk (PyData.keyHash P (Str.ofString "Reassembly")) (Value.str (Str.ofString "Reassembly") 547) (Value.ref 260), DictEntry.mk (PyData.keyHash P (Str.ofString "_law_pool")) (Value.str (Str.ofString "_law_pool") 560) (Value.ref 271), DictEntry.mk (PyData.keyHash P (Str.ofString "_law_take")) (Value.str (Str.ofString "_law_take") 569) (Value.ref 278), DictEntry.mk (PyData.keyHash P (Str.ofString "_law_one")) (Value.str (Str.ofString "_law_one") 577) (Value.ref 285), DictEntry.mk (PyData.keyHash P (Str.ofString "_law_head")) (Value.str (Str.ofString "_law_head") 586) (Value.ref 292), DictEntry.mk (PyData.keyHash P (Str.ofString "_law_denied")) (Value.str (Str.ofString "_law_denied") 592) (Value.ref 297), DictEntry.mk (PyData.keyHash P (Str.ofString "_law_taken")) (Value.str (Str.ofString "_law_taken") 605) (Value.ref 304), DictEntry.mk (PyData.keyHash P (Str.ofString "_law_stands")) (Value.str (Str.ofString "_law_stands") 611) (Value.ref 309), DictEntry.mk (PyData.keyHash P (Str.ofString "_law_datagram_right")) (Value.str (Str.ofString "_law_datagram_right") 627) (Value.ref 316), DictEntry.mk (PyData.keyHash P (Str.ofString "_law_heads_right")) (Value.str (Str.ofString "_law_heads_right") 640) (Value.ref 323), DictEntry.mk (PyData.keyHash P (Str.ofString "_law_room_right")) (Value.str (Str.ofString "_law_room_right") 646) (Value.ref 328), DictEntry.mk (PyData.keyHash P (Str.ofString "law")) (Value.str (Str.ofString "law") 655) (Value.ref 335)]) 31) (List.toArray [])
noncomputable def o_312 (P : Params) : Obj := Obj.mk Value.none Option.none (Data.fields (List.toArray [Value.int 1 0, Value.int 0 0, Value.ref 20, Value.int 6 0, Value.int 0 0, Value.ref 27, Value.int 37 0, Value.int 0 0, Value.ref 84, Value.int 70 0, Value.int 0 0, Value.ref 133, Value.int 121 0, Value.int 0 0, Value.ref 187, Value.int 123 0, Value.int 0 0, Value.ref 194, Value.int 125 0, Value.int 0 0, Value.ref 201, Value.int 127 0, Value.int 0 0, Value.ref 208, Value.int 169 0, Value.int 0 0, Value.ref 270, Value.int 176 0, Value.int 0 0, Value.ref 277, Value.int 183 0, Value.int 0 0, Value.ref 284, Value.int 185 0, Value.int 0 0, Value.ref 291, Value.int 187 0, Value.int 0 0, Value.ref 296, Value.int 195 0, Value.int 0 0, Value.ref 303, Value.int 204 0, Value.int 0 0, Value.ref 308, Value.int 212 0, Value.int 0 0, Value.ref 315, Value.int 227 0, Value.int 0 0, Value.ref 322, Value.int 239 0, Value.int 0 0, Value.ref 327, Value.int 250 0, Value.int 0 0, Value.ref 334])) (List.toArray [])
noncomputable def o_313 (P : Params) : Obj := Obj.mk (Value.type "tuple") Option.none (Data.seq (List.toArray []) 0) (List.toArray [])
noncomputable def o_314 (P : Params) : Obj := Obj.mk Value.none Option.none (Data.fields (List.toArray [])) (List.toArray [])
noncomputable def o_315 (P : Params) : Obj := Obj.mk (Value.type "tuple") Option.none (Data.seq (List.toArray [Value.str (Str.ofString "script") 553, Value.str (Str.ofString "k") 554, Value.str (Str.ofString "cell") 555, Value.str (Str.ofString "big") 556, Value.str (Str.ofString "mixed") 557]) 0) (List.toArray [])
noncomputable def o_316 (P : Params) : Obj := Obj.mk (Value.type "tuple") Option.none (Data.seq (List.toArray []) 0) (List.toArray [])
noncomputable def o_317 (P : Params) : Obj := Obj.mk Value.none Option.none (Data.func (fd (stAt 14) (Str.ofString "_law_pool") 0 [] Value.none Value.none Value.none Value.none Option.none Value.none Value.none 0)) (List.toArray [])
noncomputable def o_318 (P : Params) : Obj := Obj.mk (Value.type "code") Option.none (Data.fields (List.toArray [Value.str (Str.ofString "_law_pool") 550, Value.str (Str.ofString "_law_pool") 551, Value.str (Str.ofString "/claim/cut.py") 552, Value.int 169 0, Value.int 2 0, Value.int 0 0, Value.int 0 0, Value.int 3 0, Value.ref 265, Value.bool Bool.true, Value.int 181 0, Value.ref 266, Value.none, Value.ref 267, Value.ref 268, Value.ref 269, Value.int 558 0, Value.int 169 0, Value.str (Str.ofString "/claim/cut.py") 559])) (List.toArray [])
noncomputable def o_319 (P : Params) : Obj := Obj.mk (Value.type "function") Option.none (Data.func (fd (stAt 14) (Str.ofString "_law_pool") 3 [] Value.none Value.none Value.none (Value.str (Str.ofString "law_on0344_01") 548) Option.none (Value.ref 270) Value.none 0)) (List.toArray [])
noncomputable def o_320 (P : Params) : Obj := Obj.mk (Value.type "tuple") Option.none (Data.seq (List.toArray []) 0) (List.toArray [])
noncomputable def o_321 (P : Params) : Obj := Obj.mk Value.none Option.none (Data.fields (List.toArray [])) (List.toArray [])
noncomputable def o_322 (P : Params) : Obj := Obj.mk (Value.type "tuple") Option.none (Data.seq (List.toArray [Value.str (Str.ofString "source") 564, Value.str (Str.ofString "top") 565, Value.str (Str.ofString "drawn") 566]) 0) (List.toArray [])
noncomputable def o_323 (P : Params) : Obj := Obj.mk (Value.type "tuple") Option.none (Data.seq (List.toArray []) 0) (List.toArray [])
noncomputable def o_324 (P : Params) : Obj := Obj.mk Value.none Option.none (Data.func (fd (stAt 15) (Str.ofString "_law_take") 0 [] Value.none Value.none Value.none Value.none Option.none Value.none Value.none 0)) (List.toArray [])
noncomputable def o_325 (P : Params) : Obj := Obj.mk (Value.type "code") Option.none (Data.fields (List.toArray [Value.str (Str.ofString "_law_take") 561, Value.str (Str.ofString "_law_take") 562, Value.str (Str.ofString "/claim/cut.py") 563, Value.int 176 0, Value.int 2 0, Value.int 0 0, Value.int 0 0, Value.int 3 0, Value.ref 272, Value.bool Bool.true, Value.int 181 0, Value.ref 273, Value.none, Value.ref 274, Value.ref 275, Value.ref 276, Value.int 567 0, Value.int 176 0, Value.str (Str.ofString "/claim/cut.py") 568])) (List.toArray [])
noncomputable def o_326 (P : Params) : Obj := Obj.mk (Value.type "function") Option.none (Data.func (fd (stAt 15) (Str.ofString "_law_take") 3 [] Value.none Value.none Value.none (Value.str (Str.ofString "law_on0344_01") 548) Option.none (Value.ref 277) Value.none 0)) (List.toArray [])
noncomputable def o_327 (P : Params) : Obj := Obj.mk (Value.type "tuple") Option.none (Data.seq (List.toArray []) 0) (List.toArray [])
noncomputable def o_328 (P : Params) : Obj := Obj.mk Value.none Option.none (Data.fields (List.toArray [])) (List.toArray [])
noncomputable def o_329 (P : Params) : Obj := Obj.mk (Value.type "tuple") Option.none (Data.seq (List.toArray [Value.str (Str.ofString "source") 573, Value.str (Str.ofString "things") 574]) 0) (List.toArray [])
noncomputable def o_330 (P : Params) : Obj := Obj.mk (Value.type "tuple") Option.none (Data.seq (List.toArray []) 0) (List.toArray [])
noncomputable def o_331 (P : Params) : Obj := Obj.mk Value.none Option.none (Data.func (fd (stAt 16) (Str.ofString "_law_one") 0 [] Value.none Value.none Value.none Value.none Option.none Value.none Value.none 0)) (List.toArray [])
noncomputable def o_332 (P : Params) : Obj := Obj.mk (Value.type "code") Option.none (Data.fields (List.toArray [Value.str (Str.ofString "_law_one") 570, Value.str (Str.ofString "_law_one") 571, Value.str (Str.ofString "/claim/cut.py") 572, Value.int 183 0, Value.int 2 0, Value.int 0 0, Value.int 0 0, Value.int 3 0, Value.ref 279, Value.bool Bool.true, Value.int 181 0, Value.ref 280, Value.none, Value.ref 281, Value.ref 282, Value.ref 283, Value.int 575 0, Value.int 183 0, Value.str (Str.ofString "/claim/cut.py") 576])) (List.toArray [])
noncomputable def o_333 (P : Params) : Obj := Obj.mk (Value.type "function") Option.none (Data.func (fd (stAt 16) (Str.ofString "_law_one") 3 [] Value.none Value.none Value.none (Value.str (Str.ofString "law_on0344_01") 548) Option.none (Value.ref 284) Value.none 0)) (List.toArray [])
noncomputable def o_334 (P : Params) : Obj := Obj.mk (Value.type "tuple") Option.none (Data.seq (List.toArray []) 0) (List.toArray [])
noncomputable def o_335 (P : Params) : Obj := Obj.mk Value.none Option.none (Data.fields (List.toArray [])) (List.toArray [])
noncomputable def o_336 (P : Params) : Obj := Obj.mk (Value.type "tuple") Option.none (Data.seq (List.toArray [Value.str (Str.ofString "more") 581, Value.str (Str.ofString "offset") 582, Value.str (Str.ofString "options") 583]) 0) (List.toArray [])
noncomputable def o_337 (P : Params) : Obj := Obj.mk (Value.type "tuple") Option.none (Data.seq (List.toArray []) 0) (List.toArray [])
noncomputable def o_338 (P : Params) : Obj := Obj.mk Value.none Option.none (Data.func (fd (stAt 17) (Str.ofString "_law_head") 0 [] Value.none Value.none Value.none Value.none Option.none Value.none Value.none 0)) (List.toArray [])
noncomputable def o_339 (P : Params) : Obj := Obj.mk (Value.type "code") Option.none (Data.fields (List.toArray [Value.str (Str.ofString "_law_head") 578, Value.str (Str.ofString "_law_head") 579, Value.str (Str.ofString "/claim/cut.py") 580, Value.int 185 0, Value.int 3 0, Value.int 0 0, Value.int 0 0, Value.int 3 0, Value.ref 286, Value.bool Bool.true, Value.int 181 0, Value.ref 287, Value.none, Value.ref 288, Value.ref 289, Value.ref 290, Value.int 584 0, Value.int 185 0, Value.str (Str.ofString "/claim/cut.py") 585])) (List.toArray [])
noncomputable def o_340 (P : Params) : Obj := Obj.mk (Value.type "function") Option.none (Data.func (fd (stAt 17) (Str.ofString "_law_head") 3 [] Value.none Value.none Value.none (Value.str (Str.ofString "law_on0344_01") 548) Option.none (Value.ref 291) Value.none 0)) (List.toArray [])
noncomputable def o_341 (P : Params) : Obj := Obj.mk (Value.type "tuple") Option.none (Data.seq (List.toArray []) 0) (List.toArray [])
noncomputable def o_342 (P : Params) : Obj := Obj.mk Value.none Option.none (Data.fields (List.toArray [])) (List.toArray [])
noncomputable def o_343 (P : Params) : Obj := Obj.mk Value.none Option.none (Data.func (fd (stAt 18) (Str.ofString "_law_denied") 0 [] Value.none Value.none Value.none Value.none Option.none Value.none Value.none 0)) (List.toArray [])
noncomputable def o_344 (P : Params) : Obj := Obj.mk (Value.type "code") Option.none (Data.fields (List.toArray [Value.str (Str.ofString "_law_denied") 587, Value.str (Str.ofString "_law_denied") 588, Value.str (Str.ofString "/claim/cut.py") 589, Value.int 187 0, Value.int 4 0, Value.int 0 0, Value.int 0 0, Value.int 3 0, Value.ref 293, Value.bool Bool.true, Value.int 181 0, Value.ref 294, Value.none, Value.none, Value.none, Value.ref 295, Value.int 590 0, Value.int 187 0, Value.str (Str.ofString "/claim/cut.py") 591])) (List.toArray [])
noncomputable def o_345 (P : Params) : Obj := Obj.mk (Value.type "function") Option.none (Data.func (fd (stAt 18) (Str.ofString "_law_denied") 3 [] Value.none Value.none Value.none (Value.str (Str.ofString "law_on0344_01") 548) Option.none (Value.ref 296) Value.none 0)) (List.toArray [])
noncomputable def o_346 (P : Params) : Obj := Obj.mk (Value.type "tuple") Option.none (Data.seq (List.toArray []) 0) (List.toArray [])
noncomputable def o_347 (P : Params) : Obj := Obj.mk Value.none Option.none (Data.fields (List.toArray [])) (List.toArray [])
noncomputable def o_348 (P : Params) : Obj := Obj.mk (Value.type "tuple") Option.none (Data.seq (List.toArray [Value.str (Str.ofString "record") 596, Value.str (Str.ofString "head") 597, Value.str (Str.ofString "begin") 598, Value.str (Str.ofString "octets") 599, Value.str (Str.ofString "more") 600, Value.str (Str.ofString "at") 601, Value.str (Str.ofString "octet") 602]) 0) (List.toArray [])
noncomputable def o_349 (P : Params) : Obj := Obj.mk (Value.type "tuple") Option.none (Data.seq (List.toArray []) 0) (List.toArray [])
noncomputable def o_350 (P : Params) : Obj := Obj.mk Value.none Option.none (Data.func (fd (stAt 19) (Str.ofString "_law_taken") 0 [] Value.none Value.none Value.none Value.none Option.none Value.none Value.none 0)) (List.toArray [])
noncomputable def o_351 (P : Params) : Obj := Obj.mk (Value.type "code") Option.none (Data.fields (List.toArray [Value.str (Str.ofString "_law_taken") 593, Value.str (Str.ofString "_law_taken") 594, Value.str (Str.ofString "/claim/cut.py") 595, Value.int 195 0, Value.int 5 0, Value.int 0 0, Value.int 0 0, Value.int 3 0, Value.ref 298, Value.bool Bool.true, Value.int 181 0, Value.ref 299, Value.none, Value.ref 300, Value.ref 301, Value.ref 302, Value.int 603 0, Value.int 195 0, Value.str (Str.ofString "/claim/cut.py") 604])) (List.toArray [])
noncomputable def o_352 (P : Params) : Obj := Obj.mk (Value.type "function") Option.none (Data.func (fd (stAt 19) (Str.ofString "_law_taken") 3 [] Value.none Value.none Value.none (Value.str (Str.ofString "law_on0344_01") 548) Option.none (Value.ref 303) Value.none 0)) (List.toArray [])
noncomputable def o_353 (P : Params) : Obj := Obj.mk (Value.type "tuple") Option.none (Data.seq (List.toArray []) 0) (List.toArray [])
noncomputable def o_354 (P : Params) : Obj := Obj.mk Value.none Option.none (Data.fields (List.toArray [])) (List.toArray [])
noncomputable def o_355 (P : Params) : Obj := Obj.mk Value.none Option.none (Data.func (fd (stAt 20) (Str.ofString "_law_stands") 0 [] Value.none Value.none Value.none Value.none Option.none Value.none Value.none 0)) (List.toArray [])
noncomputable def o_356 (P : Params) : Obj := Obj.mk (Value.type "code") Option.none (Data.fields (List.toArray [Value.str (Str.ofString "_law_stands") 606, Value.str (Str.ofString "_law_stands") 607, Value.str (Str.ofString "/claim/cut.py") 608, Value.int 204 0, Value.int 2 0, Value.int 0 0, Value.int 0 0, Value.int 3 0, Value.ref 305, Value.bool Bool.true, Value.int 181 0, Value.ref 306, Value.none, Value.none, Value.none, Value.ref 307, Value.int 609 0, Value.int 204 0, Value.str (Str.ofString "/claim/cut.py") 610])) (List.toArray [])
noncomputable def o_357 (P : Params) : Obj := Obj.mk (Value.type "function") Option.none (Data.func (fd (stAt 20) (Str.ofString "_law_stands") 3 [] Value.none Value.none Value.none (Value.str (Str.ofString "law_on0344_01") 548) Option.none (Value.ref 308) Value.none 0)) (List.toArray [])
noncomputable def o_358 (P : Params) : Obj := Obj.mk (Value.type "tuple") Option.none (Data.seq (List.toArray []) 0) (List.toArray [])
noncomputable def o_359 (P : Params) : Obj := Obj.mk Value.none Option.none (Data.fields (List.toArray [])) (List.toArray [])
noncomputable def o_360 (P : Params) : Obj := Obj.mk (Value.type "tuple") Option.none (Data.seq (List.toArray [Value.str (Str.ofString "source") 615, Value.str (Str.ofString "one") 616, Value.str (Str.ofString "record") 617, Value.str (Str.ofString "turn") 618, Value.str (Str.ofString "begin") 619, Value.str (Str.ofString "many") 620, Value.str (Str.ofString "more") 621, Value.str (Str.ofString "octets") 622, Value.str (Str.ofString "head") 623, Value.str (Str.ofString "due") 624]) 0) (List.toArray [])
noncomputable def o_361 (P : Params) : Obj := Obj.mk (Value.type "tuple") Option.none (Data.seq (List.toArray []) 0) (List.toArray [])
noncomputable def o_362 (P : Params) : Obj := Obj.mk Value.none Option.none (Data.func (fd (stAt 21) (Str.ofString "_law_datagram_right") 0 [] Value.none Value.none Value.none Value.none Option.none Value.none Value.none 0)) (List.toArray [])
noncomputable def o_363 (P : Params) : Obj := Obj.mk (Value.type "code") Option.none (Data.fields (List.toArray [Value.str (Str.ofString "_law_datagram_right") 612, Value.str (Str.ofString "_law_datagram_right") 613, Value.str (Str.ofString "/claim/cut.py") 614, Value.int 212 0, Value.int 1 0, Value.int 0 0, Value.int 0 0, Value.int 3 0, Value.ref 310, Value.bool Bool.true, Value.int 181 0, Value.ref 311, Value.none, Value.ref 312, Value.ref 313, Value.ref 314, Value.int 625 0, Value.int 212 0, Value.str (Str.ofString "/claim/cut.py") 626])) (List.toArray [])
noncomputable def o_364 (P : Params) : Obj := Obj.mk (Value.type "function") Option.none (Data.func (fd (stAt 21) (Str.ofString "_law_datagram_right") 3 [] Value.none Value.none Value.none (Value.str (Str.ofString "law_on0344_01") 548) Option.none (Value.ref 315) Value.none 0)) (List.toArray [])
noncomputable def o_365 (P : Params) : Obj := Obj.mk (Value.type "tuple") Option.none (Data.seq (List.toArray []) 0) (List.toArray [])
noncomputable def o_366 (P : Params) : Obj := Obj.mk Value.none Option.none (Data.fields (List.toArray [])) (List.toArray [])
noncomputable def o_367 (P : Params) : Obj := Obj.mk (Value.type "tuple") Option.none (Data.seq (List.toArray [Value.str (Str.ofString "source") 631, Value.str (Str.ofString "row") 632, Value.str (Str.ofString "at") 633, Value.str (Str.ofString "other") 634, Value.str (Str.ofString "one") 635, Value.str (Str.ofString "two") 636, Value.str (Str.ofString "told") 637]) 0) (List.toArray [])
noncomputable def o_368 (P : Params) : Obj := Obj.mk (Value.type "tuple") Option.none (Data.seq (List.toArray []) 0) (List.toArray [])
noncomputable def o_369 (P : Params) : Obj := Obj.mk Value.none Option.none (Data.func (fd (stAt 22) (Str.ofString "_law_heads_right") 0 [] Value.none Value.none Value.none Value.none Option.none Value.none Value.none 0)) (List.toArray [])
noncomputable def o_370 (P : Params) : Obj := Obj.mk (Value.type "code") Option.none (Data.fields (List.toArray [Value.str (Str.ofString "_law_heads_right") 628, Value.str (Str.ofString "_law_heads_right") 629, Value.str (Str.ofString "/claim/cut.py") 630, Value.int 227 0, Value.int 1 0, Value.int 0 0, Value.int 0 0, Value.int 3 0, Value.ref 317, Value.bool Bool.true, Value.int 181 0, Value.ref 318, Value.none, Value.ref 319, Value.ref 320, Value.ref 321, Value.int 638 0, Value.int 227 0, Value.str (Str.ofString "/claim/cut.py") 639])) (List.toArray [])
noncomputable def o_371 (P : Params) : Obj := Obj.mk (Value.type "function") Option.none (Data.func (fd (stAt 22) (Str.ofString "_law_heads_right") 3 [] Value.none Value.none Value.none (Value.str (Str.ofString "law_on0344_01") 548) Option.none (Value.ref 322) Value.none 0)) (List.toArray [])
noncomputable def o_372 (P : Params) : Obj := Obj.mk (Value.type "tuple") Option.none (Data.seq (List.toArray []) 0) (List.toArray [])
noncomputable def o_373 (P : Params) : Obj := Obj.mk Value.none Option.none (Data.fields (List.toArray [])) (List.toArray [])
noncomputable def o_374 (P : Params) : Obj := Obj.mk Value.none Option.none (Data.func (fd (stAt 23) (Str.ofString "_law_room_right") 0 [] Value.none Value.none Value.none Value.none Option.none Value.none Value.none 0)) (List.toArray [])
noncomputable def o_375 (P : Params) : Obj := Obj.mk (Value.type "code") Option.none (Data.fields (List.toArray [Value.str (Str.ofString "_law_room_right") 641, Value.str (Str.ofString "_law_room_right") 642, Value.str (Str.ofString "/claim/cut.py") 643, Value.int 239 0, Value.int 1 0, Value.int 0 0, Value.int 0 0, Value.int 3 0, Value.ref 324, Value.bool Bool.true, Value.int 181 0, Value.ref 325, Value.none, Value.none, Value.none, Value.ref 326, Value.int 644 0, Value.int 239 0, Value.str (Str.ofString "/claim/cut.py") 645])) (List.toArray [])
noncomputable def o_376 (P : Params) : Obj := Obj.mk (Value.type "function") Option.none (Data.func (fd (stAt 23) (Str.ofString "_law_room_right") 3 [] Value.none Value.none Value.none (Value.str (Str.ofString "law_on0344_01") 548) Option.none (Value.ref 327) Value.none 0)) (List.toArray [])
noncomputable def o_377 (P : Params) : Obj := Obj.mk (Value.type "tuple") Option.none (Data.seq (List.toArray []) 0) (List.toArray [])
noncomputable def o_378 (P : Params) : Obj := Obj.mk Value.none Option.none (Data.fields (List.toArray [])) (List.toArray [])
noncomputable def o_379 (P : Params) : Obj := Obj.mk (Value.type "tuple") Option.none (Data.seq (List.toArray [Value.str (Str.ofString "script") 650, Value.str (Str.ofString "last") 651, Value.str (Str.ofString "source") 652]) 0) (List.toArray [])
noncomputable def o_380 (P : Params) : Obj := Obj.mk (Value.type "tuple") Option.none (Data.seq (List.toArray []) 0) (List.toArray [])
noncomputable def o_381 (P : Params) : Obj := Obj.mk Value.none Option.none (Data.func (fd (stAt 24) (Str.ofString "law") 0 [] Value.none Value.none Value.none Value.none Option.none Value.none Value.none 0)) (List.toArray [])
noncomputable def o_382 (P : Params) : Obj := Obj.mk (Value.type "code") Option.none (Data.fields (List.toArray [Value.str (Str.ofString "law") 647, Value.str (Str.ofString "law") 648, Value.str (Str.ofString "/claim/cut.py") 649, Value.int 250 0, Value.int 1 0, Value.int 0 0, Value.int 0 0, Value.int 3 0, Value.ref 329, Value.bool Bool.true, Value.int 181 0, Value.ref 330, Value.none, Value.ref 331, Value.ref 332, Value.ref 333, Value.int 653 0, Value.int 250 0, Value.str (Str.ofString "/claim/cut.py") 654])) (List.toArray [])
noncomputable def o_383 (P : Params) : Obj := Obj.mk (Value.type "function") Option.none (Data.func (fd (stAt 24) (Str.ofString "law") 3 [] Value.none Value.none Value.none (Value.str (Str.ofString "law_on0344_01") 548) Option.none (Value.ref 334) Value.none 0)) (List.toArray [])
noncomputable def tree_47 (P : Params) : BT := BT.node (boot_o_0 P) (BT.node (boot_o_1 P) (BT.node (boot_o_3 P) (BT.node (boot_o_7 P) BT.nil BT.nil) (BT.node (o_43 P) BT.nil BT.nil)) (BT.node (boot_o_5 P) (BT.node (boot_o_9 P) BT.nil BT.nil) (BT.node (o_45 P) BT.nil BT.nil))) (BT.node (boot_o_2 P) (BT.node (boot_o_4 P) (BT.node (boot_o_8 P) BT.nil BT.nil) (BT.node (o_44 P) BT.nil BT.nil)) (BT.node (boot_o_6 P) (BT.node (boot_o_10 P) BT.nil BT.nil) (BT.node (o_46 P) BT.nil BT.nil)))
noncomputable def tree_223 (P : Params) : BT := BT.node (boot_o_0 P) (BT.node (boot_o_1 P) (BT.node (o_168 P) (BT.node (boot_o_7 P) (BT.node (o_51 P) (BT.node (o_69 P) (BT.node (o_101 P) (BT.node (o_167 P) BT.nil BT.nil) BT.nil) (BT.node (o_135 P) (BT.node (o_201 P) BT.nil BT.nil) BT.nil)) (BT.node (o_85 P) (BT.node (o_119 P) (BT.node (o_185 P) BT.nil BT.nil) BT.nil) (BT.node (o_151 P) (BT.node (o_217 P) BT.nil BT.nil) BT.nil))) (BT.node (o_61 P) (BT.node (o_77 P) (BT.node (o_109 P) (BT.node (o_177 P) BT.nil BT.nil) BT.nil) (BT.node (o_143 P) (BT.node (o_209 P) BT.nil BT.nil) BT.nil)) (BT.node (o_93 P) (BT.node (o_127 P) (BT.node (o_193 P) BT.nil BT.nil) BT.nil) (BT.node (o_159 P) BT.nil BT.nil)))) (BT.node (o_43 P) (BT.node (o_55 P) (BT.node (o_73 P) (BT.node (o_105 P) (BT.node (o_173 P) BT.nil BT.nil) BT.nil) (BT.node (o_139 P) (BT.node (o_205 P) BT.nil BT.nil) BT.nil)) (BT.node (o_89 P) (BT.node (o_123 P) (BT.node (o_189 P) BT.nil BT.nil) BT.nil) (BT.node (o_155 P) (BT.node (o_221 P) BT.nil BT.nil) BT.nil))) (BT.node (o_65 P) (BT.node (o_81 P) (BT.node (o_113 P) (BT.node (o_181 P) BT.nil BT.nil) BT.nil) (BT.node (o_147 P) (BT.node (o_213 P) BT.nil BT.nil) BT.nil)) (BT.node (o_97 P) (BT.node (o_131 P) (BT.node (o_197 P) BT.nil BT.nil) BT.nil) (BT.node (o_163 P) BT.nil BT.nil))))) (BT.node (boot_o_5 P) (BT.node (boot_o_9 P) (BT.node (o_53 P) (BT.node (o_71 P) (BT.node (o_103 P) (BT.node (o_171 P) BT.nil BT.nil) BT.nil) (BT.node (o_137 P) (BT.node (o_203 P) BT.nil BT.nil) BT.nil)) (BT.node (o_87 P) (BT.node (o_121 P) (BT.node (o_187 P) BT.nil BT.nil) BT.nil) (BT.node (o_153 P) (BT.node (o_219 P) BT.nil BT.nil) BT.nil))) (BT.node (o_63 P) (BT.node (o_79 P) (BT.node (o_111 P) (BT.node (o_179 P) BT.nil BT.nil) BT.nil) (BT.node (o_145 P) (BT.node (o_211 P) BT.nil BT.nil) BT.nil)) (BT.node (o_95 P) (BT.node (o_129 P) (BT.node (o_195 P) BT.nil BT.nil) BT.nil) (BT.node (o_161 P) BT.nil BT.nil)))) (BT.node (o_45 P) (BT.node (o_57 P) (BT.node (o_75 P) (BT.node (o_107 P) (BT.node (o_175 P) BT.nil BT.nil) BT.nil) (BT.node (o_141 P) (BT.node (o_207 P) BT.nil BT.nil) BT.nil)) (BT.node (o_91 P) (BT.node (o_125 P) (BT.node (o_191 P) BT.nil BT.nil) BT.nil) (BT.node (o_157 P) (BT.node (o_223 P) BT.nil BT.nil) BT.nil))) (BT.node (o_67 P) (BT.node (o_83 P) (BT.node (o_115 P) (BT.node (o_183 P) BT.nil BT.nil) BT.nil) (BT.node (o_149 P) (BT.node (o_215 P) BT.nil BT.nil) BT.nil)) (BT.node (o_99 P) (BT.node (o_133 P) (BT.node (o_199 P) BT.nil BT.nil) BT.nil) (BT.node (o_165 P) BT.nil BT.nil)))))) (BT.node (boot_o_2 P) (BT.node (boot_o_4 P) (BT.node (boot_o_8 P) (BT.node (o_52 P) (BT.node (o_70 P) (BT.node (o_102 P) (BT.node (o_170 P) BT.nil BT.nil) BT.nil) (BT.node (o_136 P) (BT.node (o_202 P) BT.nil BT.nil) BT.nil)) (BT.node (o_86 P) (BT.node (o_120 P) (BT.node (o_186 P) BT.nil BT.nil) BT.nil) (BT.node (o_152 P) (BT.node (o_218 P) BT.nil BT.nil) BT.nil))) (BT.node (o_62 P) (BT.node (o_78 P) (BT.node (o_110 P) (BT.node (o_178 P) BT.nil BT.nil) BT.nil) (BT.node (o_144 P) (BT.node (o_210 P) BT.nil BT.nil) BT.nil)) (BT.node (o_94 P) (BT.node (o_128 P) (BT.node (o_194 P) BT.nil BT.nil) BT.nil) (BT.node (o_160 P) BT.nil BT.nil)))) (BT.node (o_169 P) (BT.node (o_56 P) (BT.node (o_74 P) (BT.node (o_106 P) (BT.node (o_174 P) BT.nil BT.nil) BT.nil) (BT.node (o_140 P) (BT.node (o_206 P) BT.nil BT.nil) BT.nil)) (BT.node (o_90 P) (BT.node (o_124 P) (BT.node (o_190 P) BT.nil BT.nil) BT.nil) (BT.node (o_156 P) (BT.node (o_222 P) BT.nil BT.nil) BT.nil))) (BT.node (o_66 P) (BT.node (o_82 P) (BT.node (o_114 P) (BT.node (o_182 P) BT.nil BT.nil) BT.nil) (BT.node (o_148 P) (BT.node (o_214 P) BT.nil BT.nil) BT.nil)) (BT.node (o_98 P) (BT.node (o_132 P) (BT.node (o_198 P) BT.nil BT.nil) BT.nil) (BT.node (o_164 P) BT.nil BT.nil))))) (BT.node (boot_o_6 P) (BT.node (boot_o_10 P) (BT.node (o_54 P) (BT.node (o_72 P) (BT.node (o_104 P) (BT.node (o_172 P) BT.nil BT.nil) BT.nil) (BT.node (o_138 P) (BT.node (o_204 P) BT.nil BT.nil) BT.nil)) (BT.node (o_88 P) (BT.node (o_122 P) (BT.node (o_188 P) BT.nil BT.nil) BT.nil) (BT.node (o_154 P) (BT.node (o_220 P) BT.nil BT.nil) BT.nil))) (BT.node (o_64 P) (BT.node (o_80 P) (BT.node (o_112 P) (BT.node (o_180 P) BT.nil BT.nil) BT.nil) (BT.node (o_146 P) (BT.node (o_212 P) BT.nil BT.nil) BT.nil)) (BT.node (o_96 P) (BT.node (o_130 P) (BT.node (o_196 P) BT.nil BT.nil) BT.nil) (BT.node (o_162 P) BT.nil BT.nil)))) (BT.node (o_46 P) (BT.node (o_60 P) (BT.node (o_76 P) (BT.node (o_108 P) (BT.node (o_176 P) BT.nil BT.nil) BT.nil) (BT.node (o_142 P) (BT.node (o_208 P) BT.nil BT.nil) BT.nil)) (BT.node (o_92 P) (BT.node (o_126 P) (BT.node (o_192 P) BT.nil BT.nil) BT.nil) (BT.node (o_158 P) BT.nil BT.nil))) (BT.node (o_68 P) (BT.node (o_84 P) (BT.node (o_116 P) (BT.node (o_184 P) BT.nil BT.nil) BT.nil) (BT.node (o_150 P) (BT.node (o_216 P) BT.nil BT.nil) BT.nil)) (BT.node (o_100 P) (BT.node (o_134 P) (BT.node (o_200 P) BT.nil BT.nil) BT.nil) (BT.node (o_166 P) BT.nil BT.nil))))))
noncomputable def tree_383 (P : Params) : BT := BT.node (boot_o_0 P) (BT.node (boot_o_1 P) (BT.node (o_311 P) (BT.node (boot_o_7 P) (BT.node (o_51 P) (BT.node (o_69 P) (BT.node (o_101 P) (BT.node (o_167 P) (BT.node (o_301 P) BT.nil BT.nil) BT.nil) (BT.node (o_235 P) (BT.node (o_367 P) BT.nil BT.nil) BT.nil)) (BT.node (o_135 P) (BT.node (o_201 P) (BT.node (o_335 P) BT.nil BT.nil) BT.nil) (BT.node (o_269 P) BT.nil BT.nil))) (BT.node (o_85 P) (BT.node (o_119 P) (BT.node (o_185 P) (BT.node (o_319 P) BT.nil BT.nil) BT.nil) (BT.node (o_253 P) (BT.node (o_383 P) BT.nil BT.nil) BT.nil)) (BT.node (o_151 P) (BT.node (o_217 P) (BT.node (o_351 P) BT.nil BT.nil) BT.nil) (BT.node (o_285 P) BT.nil BT.nil)))) (BT.node (o_61 P) (BT.node (o_77 P) (BT.node (o_109 P) (BT.node (o_177 P) (BT.node (o_309 P) BT.nil BT.nil) BT.nil) (BT.node (o_243 P) (BT.node (o_375 P) BT.nil BT.nil) BT.nil)) (BT.node (o_143 P) (BT.node (o_209 P) (BT.node (o_343 P) BT.nil BT.nil) BT.nil) (BT.node (o_277 P) BT.nil BT.nil))) (BT.node (o_93 P) (BT.node (o_127 P) (BT.node (o_193 P) (BT.node (o_327 P) BT.nil BT.nil) BT.nil) (BT.node (o_261 P) BT.nil BT.nil)) (BT.node (o_159 P) (BT.node (o_227 P) (BT.node (o_359 P) BT.nil BT.nil) BT.nil) (BT.node (o_293 P) BT.nil BT.nil))))) (BT.node (o_43 P) (BT.node (o_55 P) (BT.node (o_73 P) (BT.node (o_105 P) (BT.node (o_173 P) (BT.node (o_305 P) BT.nil BT.nil) BT.nil) (BT.node (o_239 P) (BT.node (o_371 P) BT.nil BT.nil) BT.nil)) (BT.node (o_139 P) (BT.node (o_205 P) (BT.node (o_339 P) BT.nil BT.nil) BT.nil) (BT.node (o_273 P) BT.nil BT.nil))) (BT.node (o_89 P) (BT.node (o_123 P) (BT.node (o_189 P) (BT.node (o_323 P) BT.nil BT.nil) BT.nil) (BT.node (o_257 P) BT.nil BT.nil)) (BT.node (o_155 P) (BT.node (o_221 P) (BT.node (o_355 P) BT.nil BT.nil) BT.nil) (BT.node (o_289 P) BT.nil BT.nil)))) (BT.node (o_65 P) (BT.node (o_81 P) (BT.node (o_113 P) (BT.node (o_181 P) (BT.node (o_315 P) BT.nil BT.nil) BT.nil) (BT.node (o_249 P) (BT.node (o_379 P) BT.nil BT.nil) BT.nil)) (BT.node (o_147 P) (BT.node (o_213 P) (BT.node (o_347 P) BT.nil BT.nil) BT.nil) (BT.node (o_281 P) BT.nil BT.nil))) (BT.node (o_97 P) (BT.node (o_131 P) (BT.node (o_197 P) (BT.node (o_331 P) BT.nil BT.nil) BT.nil) (BT.node (o_265 P) BT.nil BT.nil)) (BT.node (o_163 P) (BT.node (o_231 P) (BT.node (o_363 P) BT.nil BT.nil) BT.nil) (BT.node (o_297 P) BT.nil BT.nil)))))) (BT.node (boot_o_5 P) (BT.node (boot_o_9 P) (BT.node (o_53 P) (BT.node (o_71 P) (BT.node (o_103 P) (BT.node (o_171 P) (BT.node (o_303 P) BT.nil BT.nil) BT.nil) (BT.node (o_237 P) (BT.node (o_369 P) BT.nil BT.nil) BT.nil)) (BT.node (o_137 P) (BT.node (o_203 P) (BT.node (o_337 P) BT.nil BT.nil) BT.nil) (BT.node (o_271 P) BT.nil BT.nil))) (BT.node (o_87 P) (BT.node (o_121 P) (BT.node (o_187 P) (BT.node (o_321 P) BT.nil BT.nil) BT.nil) (BT.node (o_255 P) BT.nil BT.nil)) (BT.node (o_153 P) (BT.node (o_219 P) (BT.node (o_353 P) BT.nil BT.nil) BT.nil) (BT.node (o_287 P) BT.nil BT.nil)))) (BT.node (o_63 P) (BT.node (o_79 P) (BT.node (o_111 P) (BT.node (o_179 P) (BT.node (o_313 P) BT.nil BT.nil) BT.nil) (BT.node (o_245 P) (BT.node (o_377 P) BT.nil BT.nil) BT.nil)) (BT.node (o_145 P) (BT.node (o_211 P) (BT.node (o_345 P) BT.nil BT.nil) BT.nil) (BT.node (o_279 P) BT.nil BT.nil))) (BT.node (o_95 P) (BT.node (o_129 P) (BT.node (o_195 P) (BT.node (o_329 P) BT.nil BT.nil) BT.nil) (BT.node (o_263 P) BT.nil BT.nil)) (BT.node (o_161 P) (BT.node (o_229 P) (BT.node (o_361 P) BT.nil BT.nil) BT.nil) (BT.node (o_295 P) BT.nil BT.nil))))) (BT.node (o_45 P) (BT.node (o_57 P) (BT.node (o_75 P) (BT.node (o_107 P) (BT.node (o_175 P) (BT.node (o_307 P) BT.nil BT.nil) BT.nil) (BT.node (o_241 P) (BT.node (o_373 P) BT.nil BT.nil) BT.nil)) (BT.node (o_141 P) (BT.node (o_207 P) (BT.node (o_341 P) BT.nil BT.nil) BT.nil) (BT.node (o_275 P) BT.nil BT.nil))) (BT.node (o_91 P) (BT.node (o_125 P) (BT.node (o_191 P) (BT.node (o_325 P) BT.nil BT.nil) BT.nil) (BT.node (o_259 P) BT.nil BT.nil)) (BT.node (o_157 P) (BT.node (o_223 P) (BT.node (o_357 P) BT.nil BT.nil) BT.nil) (BT.node (o_291 P) BT.nil BT.nil)))) (BT.node (o_67 P) (BT.node (o_83 P) (BT.node (o_115 P) (BT.node (o_183 P) (BT.node (o_317 P) BT.nil BT.nil) BT.nil) (BT.node (o_251 P) (BT.node (o_381 P) BT.nil BT.nil) BT.nil)) (BT.node (o_149 P) (BT.node (o_215 P) (BT.node (o_349 P) BT.nil BT.nil) BT.nil) (BT.node (o_283 P) BT.nil BT.nil))) (BT.node (o_99 P) (BT.node (o_133 P) (BT.node (o_199 P) (BT.node (o_333 P) BT.nil BT.nil) BT.nil) (BT.node (o_267 P) BT.nil BT.nil)) (BT.node (o_165 P) (BT.node (o_233 P) (BT.node (o_365 P) BT.nil BT.nil) BT.nil) (BT.node (o_299 P) BT.nil BT.nil))))))) (BT.node (boot_o_2 P) (BT.node (boot_o_4 P) (BT.node (boot_o_8 P) (BT.node (o_52 P) (BT.node (o_70 P) (BT.node (o_102 P) (BT.node (o_170 P) (BT.node (o_302 P) BT.nil BT.nil) BT.nil) (BT.node (o_236 P) (BT.node (o_368 P) BT.nil BT.nil) BT.nil)) (BT.node (o_136 P) (BT.node (o_202 P) (BT.node (o_336 P) BT.nil BT.nil) BT.nil) (BT.node (o_270 P) BT.nil BT.nil))) (BT.node (o_86 P) (BT.node (o_120 P) (BT.node (o_186 P) (BT.node (o_320 P) BT.nil BT.nil) BT.nil) (BT.node (o_254 P) BT.nil BT.nil)) (BT.node (o_152 P) (BT.node (o_218 P) (BT.node (o_352 P) BT.nil BT.nil) BT.nil) (BT.node (o_286 P) BT.nil BT.nil)))) (BT.node (o_62 P) (BT.node (o_78 P) (BT.node (o_110 P) (BT.node (o_178 P) (BT.node (o_310 P) BT.nil BT.nil) BT.nil) (BT.node (o_244 P) (BT.node (o_376 P) BT.nil BT.nil) BT.nil)) (BT.node (o_144 P) (BT.node (o_210 P) (BT.node (o_344 P) BT.nil BT.nil) BT.nil) (BT.node (o_278 P) BT.nil BT.nil))) (BT.node (o_94 P) (BT.node (o_128 P) (BT.node (o_194 P) (BT.node (o_328 P) BT.nil BT.nil) BT.nil) (BT.node (o_262 P) BT.nil BT.nil)) (BT.node (o_160 P) (BT.node (o_228 P) (BT.node (o_360 P) BT.nil BT.nil) BT.nil) (BT.node (o_294 P) BT.nil BT.nil))))) (BT.node (o_312 P) (BT.node (o_56 P) (BT.node (o_74 P) (BT.node (o_106 P) (BT.node (o_174 P) (BT.node (o_306 P) BT.nil BT.nil) BT.nil) (BT.node (o_240 P) (BT.node (o_372 P) BT.nil BT.nil) BT.nil)) (BT.node (o_140 P) (BT.node (o_206 P) (BT.node (o_340 P) BT.nil BT.nil) BT.nil) (BT.node (o_274 P) BT.nil BT.nil))) (BT.node (o_90 P) (BT.node (o_124 P) (BT.node (o_190 P) (BT.node (o_324 P) BT.nil BT.nil) BT.nil) (BT.node (o_258 P) BT.nil BT.nil)) (BT.node (o_156 P) (BT.node (o_222 P) (BT.node (o_356 P) BT.nil BT.nil) BT.nil) (BT.node (o_290 P) BT.nil BT.nil)))) (BT.node (o_66 P) (BT.node (o_82 P) (BT.node (o_114 P) (BT.node (o_182 P) (BT.node (o_316 P) BT.nil BT.nil) BT.nil) (BT.node (o_250 P) (BT.node (o_380 P) BT.nil BT.nil) BT.nil)) (BT.node (o_148 P) (BT.node (o_214 P) (BT.node (o_348 P) BT.nil BT.nil) BT.nil) (BT.node (o_282 P) BT.nil BT.nil))) (BT.node (o_98 P) (BT.node (o_132 P) (BT.node (o_198 P) (BT.node (o_332 P) BT.nil BT.nil) BT.nil) (BT.node (o_266 P) BT.nil BT.nil)) (BT.node (o_164 P) (BT.node (o_232 P) (BT.node (o_364 P) BT.nil BT.nil) BT.nil) (BT.node (o_298 P) BT.nil BT.nil)))))) (BT.node (boot_o_6 P) (BT.node (boot_o_10 P) (BT.node (o_54 P) (BT.node (o_72 P) (BT.node (o_104 P) (BT.node (o_172 P) (BT.node (o_304 P) BT.nil BT.nil) BT.nil) (BT.node (o_238 P) (BT.node (o_370 P) BT.nil BT.nil) BT.nil)) (BT.node (o_138 P) (BT.node (o_204 P) (BT.node (o_338 P) BT.nil BT.nil) BT.nil) (BT.node (o_272 P) BT.nil BT.nil))) (BT.node (o_88 P) (BT.node (o_122 P) (BT.node (o_188 P) (BT.node (o_322 P) BT.nil BT.nil) BT.nil) (BT.node (o_256 P) BT.nil BT.nil)) (BT.node (o_154 P) (BT.node (o_220 P) (BT.node (o_354 P) BT.nil BT.nil) BT.nil) (BT.node (o_288 P) BT.nil BT.nil)))) (BT.node (o_64 P) (BT.node (o_80 P) (BT.node (o_112 P) (BT.node (o_180 P) (BT.node (o_314 P) BT.nil BT.nil) BT.nil) (BT.node (o_246 P) (BT.node (o_378 P) BT.nil BT.nil) BT.nil)) (BT.node (o_146 P) (BT.node (o_212 P) (BT.node (o_346 P) BT.nil BT.nil) BT.nil) (BT.node (o_280 P) BT.nil BT.nil))) (BT.node (o_96 P) (BT.node (o_130 P) (BT.node (o_196 P) (BT.node (o_330 P) BT.nil BT.nil) BT.nil) (BT.node (o_264 P) BT.nil BT.nil)) (BT.node (o_162 P) (BT.node (o_230 P) (BT.node (o_362 P) BT.nil BT.nil) BT.nil) (BT.node (o_296 P) BT.nil BT.nil))))) (BT.node (o_46 P) (BT.node (o_60 P) (BT.node (o_76 P) (BT.node (o_108 P) (BT.node (o_176 P) (BT.node (o_308 P) BT.nil BT.nil) BT.nil) (BT.node (o_242 P) (BT.node (o_374 P) BT.nil BT.nil) BT.nil)) (BT.node (o_142 P) (BT.node (o_208 P) (BT.node (o_342 P) BT.nil BT.nil) BT.nil) (BT.node (o_276 P) BT.nil BT.nil))) (BT.node (o_92 P) (BT.node (o_126 P) (BT.node (o_192 P) (BT.node (o_326 P) BT.nil BT.nil) BT.nil) (BT.node (o_260 P) BT.nil BT.nil)) (BT.node (o_158 P) (BT.node (o_226 P) (BT.node (o_358 P) BT.nil BT.nil) BT.nil) (BT.node (o_292 P) BT.nil BT.nil)))) (BT.node (o_68 P) (BT.node (o_84 P) (BT.node (o_116 P) (BT.node (o_184 P) (BT.node (o_318 P) BT.nil BT.nil) BT.nil) (BT.node (o_252 P) (BT.node (o_382 P) BT.nil BT.nil) BT.nil)) (BT.node (o_150 P) (BT.node (o_216 P) (BT.node (o_350 P) BT.nil BT.nil) BT.nil) (BT.node (o_284 P) BT.nil BT.nil))) (BT.node (o_100 P) (BT.node (o_134 P) (BT.node (o_200 P) (BT.node (o_334 P) BT.nil BT.nil) BT.nil) (BT.node (o_268 P) BT.nil BT.nil)) (BT.node (o_166 P) (BT.node (o_234 P) (BT.node (o_366 P) BT.nil BT.nil) BT.nil) (BT.node (o_300 P) BT.nil BT.nil)))))))
noncomputable def heap_46 (P : Params) : Heap := Heap.mk (Array.mk [boot_o_0 P, boot_o_1 P, boot_o_2 P, boot_o_3 P, boot_o_4 P, boot_o_5 P, boot_o_6 P, boot_o_7 P, boot_o_8 P, boot_o_9 P, boot_o_10 P, o_43 P, o_44 P, o_45 P, o_46 P]) (Life.mk [] [] [] 0 [] [] Bool.false (List.toArray []) [] 0 Bool.false Bool.false Bool.false 0 [2000, 10, 10] Bool.false 0 Bool.true [] [] 0 Bool.false)
noncomputable def heap_384 (P : Params) : Heap := Heap.mk (Array.mk [boot_o_0 P, boot_o_1 P, boot_o_2 P, o_311 P, boot_o_4 P, boot_o_5 P, boot_o_6 P, boot_o_7 P, boot_o_8 P, boot_o_9 P, boot_o_10 P, o_43 P, o_312 P, o_45 P, o_46 P, o_51 P, o_52 P, o_53 P, o_54 P, o_55 P, o_56 P, o_57 P, o_60 P, o_61 P, o_62 P, o_63 P, o_64 P, o_65 P, o_66 P, o_67 P, o_68 P, o_69 P, o_70 P, o_71 P, o_72 P, o_73 P, o_74 P, o_75 P, o_76 P, o_77 P, o_78 P, o_79 P, o_80 P, o_81 P, o_82 P, o_83 P, o_84 P, o_85 P, o_86 P, o_87 P, o_88 P, o_89 P, o_90 P, o_91 P, o_92 P, o_93 P, o_94 P, o_95 P, o_96 P, o_97 P, o_98 P, o_99 P, o_100 P, o_101 P, o_102 P, o_103 P, o_104 P, o_105 P, o_106 P, o_107 P, o_108 P, o_109 P, o_110 P, o_111 P, o_112 P, o_113 P, o_114 P, o_115 P, o_116 P, o_119 P, o_120 P, o_121 P, o_122 P, o_123 P, o_124 P, o_125 P, o_126 P, o_127 P, o_128 P, o_129 P, o_130 P, o_131 P, o_132 P, o_133 P, o_134 P, o_135 P, o_136 P, o_137 P, o_138 P, o_139 P, o_140 P, o_141 P, o_142 P, o_143 P, o_144 P, o_145 P, o_146 P, o_147 P, o_148 P, o_149 P, o_150 P, o_151 P, o_152 P, o_153 P, o_154 P, o_155 P, o_156 P, o_157 P, o_158 P, o_159 P, o_160 P, o_161 P, o_162 P, o_163 P, o_164 P, o_165 P, o_166 P, o_167 P, o_170 P, o_171 P, o_172 P, o_173 P, o_174 P, o_175 P, o_176 P, o_177 P, o_178 P, o_179 P, o_180 P, o_181 P, o_182 P, o_183 P, o_184 P, o_185 P, o_186 P, o_187 P, o_188 P, o_189 P, o_190 P, o_191 P, o_192 P, o_193 P, o_194 P, o_195 P, o_196 P, o_197 P, o_198 P, o_199 P, o_200 P, o_201 P, o_202 P, o_203 P, o_204 P, o_205 P, o_206 P, o_207 P, o_208 P, o_209 P, o_210 P, o_211 P, o_212 P, o_213 P, o_214 P, o_215 P, o_216 P, o_217 P, o_218 P, o_219 P, o_220 P, o_221 P, o_222 P, o_223 P, o_226 P, o_227 P, o_228 P, o_229 P, o_230 P, o_231 P, o_232 P, o_233 P, o_234 P, o_235 P, o_236 P, o_237 P, o_238 P, o_239 P, o_240 P, o_241 P, o_242 P, o_243 P, o_244 P, o_245 P, o_246 P, o_249 P, o_250 P, o_251 P, o_252 P, o_253 P, o_254 P, o_255 P, o_256 P, o_257 P, o_258 P, o_259 P, o_260 P, o_261 P, o_262 P, o_263 P, o_264 P, o_265 P, o_266 P, o_267 P, o_268 P, o_269 P, o_270 P, o_271 P, o_272 P, o_273 P, o_274 P, o_275 P, o_276 P, o_277 P, o_278 P, o_279 P, o_280 P, o_281 P, o_282 P, o_283 P, o_284 P, o_285 P, o_286 P, o_287 P, o_288 P, o_289 P, o_290 P, o_291 P, o_292 P, o_293 P, o_294 P, o_295 P, o_296 P, o_297 P, o_298 P, o_299 P, o_300 P, o_301 P, o_302 P, o_303 P, o_304 P, o_305 P, o_306 P, o_307 P, o_308 P, o_309 P, o_310 P, o_313 P, o_314 P, o_315 P, o_316 P, o_317 P, o_318 P, o_319 P, o_320 P, o_321 P, o_322 P, o_323 P, o_324 P, o_325 P, o_326 P, o_327 P, o_328 P, o_329 P, o_330 P, o_331 P, o_332 P, o_333 P, o_334 P, o_335 P, o_336 P, o_337 P, o_338 P, o_339 P, o_340 P, o_341 P, o_342 P, o_343 P, o_344 P, o_345 P, o_346 P, o_347 P, o_348 P, o_349 P, o_350 P, o_351 P, o_352 P, o_353 P, o_354 P, o_355 P, o_356 P, o_357 P, o_358 P, o_359 P, o_360 P, o_361 P, o_362 P, o_363 P, o_364 P, o_365 P, o_366 P, o_367 P, o_368 P, o_369 P, o_370 P, o_371 P, o_372 P, o_373 P, o_374 P, o_375 P, o_376 P, o_377 P, o_378 P, o_379 P, o_380 P, o_381 P, o_382 P, o_383 P]) (Life.mk [] [] [] 0 [] [] Bool.false (List.toArray []) [] 0 Bool.false Bool.false Bool.false 0 [2000, 10, 10] Bool.false 0 Bool.true [] [] 0 Bool.false)

theorem p_top : ∀ w : World, (fun os => topGo treeTable pg w 11 (some (.ref 6)) 12 ⟨boot_heap w.params, #[], boot_drawn, boot_toks, os⟩ (topStub pg)) =
    fun os => some (⟨heap_46 w.params, #[], {}, 187, os⟩, ⟨denote treeTable (Code.body (behindTheImports pg) env_41), (Code.body (behindTheImports pg) env_41), ⟨0, 0, 0, 0⟩, [topFrame ⟨0, 0, 0, 0⟩]⟩) := by intro w; kernel_rfl
theorem p_block : ∀ w : World, (fun os => segRun treeTable pg w 11 (some (.ref 6)) 1 1 ⟨heap_46 w.params, #[], {}, 187, os⟩ (blockOf (behindTheImports pg) env_41 (Code.body (behindTheImports pg) env_41) ⟨0, 0, 0, 0⟩ [topFrame ⟨0, 0, 0, 0⟩])) =
    fun os => some (Flow.next, SharedT.abs ⟨tree_47 w.params, 15, {}, #[], {}, 187, os⟩, (Code.body (behindTheImports pg) env_41), ⟨0, 0, 0, 0⟩) := by intro w; kernel_rfl
theorem p_a : ∀ w : World, (fun os => segRunT treeTable pg w 11 (some (.ref 6)) 1 1232 ⟨tree_47 w.params, 15, {}, #[], {}, 187, os⟩ (piecesOf ((behindTheImports pg).take 9) env_41 (Code.body (behindTheImports pg) env_41) ⟨0, 0, 0, 0⟩ [topFrame ⟨0, 0, 0, 0⟩])) =
    fun os => some (Flow.next, ⟨tree_223 w.params, 182, {}, #[], {}, 444, os⟩, (Code.body (behindTheImports pg) env_41), ⟨70, 0, 120, 27⟩) := by intro w; kernel_rfl
theorem p_b : ∀ w : World, (fun os => segRunT treeTable pg w 11 (some (.ref 6)) 1 860 ⟨tree_223 w.params, 182, {}, #[], {}, 444, os⟩ (piecesOf ((behindTheImports pg).drop 9) env_41 (Code.body (behindTheImports pg) env_41) ⟨70, 0, 120, 27⟩ [topFrame ⟨0, 0, 0, 0⟩])) =
    fun os => some (Flow.next, ⟨tree_383 w.params, 336, {}, #[], {}, 656, os⟩, (Code.body (behindTheImports pg) env_41), ⟨250, 0, 257, 62⟩) := by intro w; kernel_rfl
theorem p_end : ∀ w : World, (fun os => topRun treeTable pg w 11 (some (.ref 6)) 2 (SharedT.abs ⟨tree_383 w.params, 336, {}, #[], {}, 656, os⟩) (restOf [] env_41 (Code.body (behindTheImports pg) env_41) ⟨250, 0, 257, 62⟩ [topFrame ⟨0, 0, 0, 0⟩])) =
    fun os => some ⟨heap_384 w.params, #[], {}, 656, os⟩ := by intro w; kernel_rfl
theorem p_run (w : World) (os : OsState) : topRun treeTable pg w 11 (some (.ref 6)) (12 + (1 + (1232 + (860 + 2)))) ⟨boot_heap w.params, #[], boot_drawn, boot_toks, os⟩ (topStub pg) = some ⟨heap_384 w.params, #[], {}, 656, os⟩ :=
  go_top (congrFun (p_top w) os) (piece_block (congrFun (p_block w) os)
    (List.take_append_drop 9 (behindTheImports pg) ▸ piece_app (l := (behindTheImports pg).take 9) (rest := (behindTheImports pg).drop 9) (segRun_of (congrFun (p_a w) os))
      (List.append_nil ((behindTheImports pg).drop 9) ▸ piece_app (l := (behindTheImports pg).drop 9) (rest := []) (segRun_of (congrFun (p_b w) os)) (congrFun (p_end w) os))))
def q : Program := view PySem.Challenge.rw_on0344_01.prog [0, 2, 3, 5, 6, 7, 8, 9, 10, 11, 12, 14, 15, 16, 17, 18, 19, 20, 21, 22, 23, 24]
/-- the looks at the law's text, all at once -/
theorem law_ok : PySem.Challenge.rw_on0344_01.wellSaid = true := by decide +kernel
local macro_rules
  | `(tactic| o_law) => `(tactic| refine holds_law Mine.law_ok fun said => ?_)
local macro_rules
  | `(tactic| o_head $H) => `(tactic| (
    refine holds_open (q := Mine.q) (loose := [PySem.Str.ofString "IpHeader"]) (Xt := fun s => xlAt Mine.q [] s && recOk (RowW.records (PySem.Challenge.rw_on0344_01.row).toRowW) s) (XP := XL Mine.q []) (Yf := Hook.obs $H) (Ya := Hook.val $H) (YP := Hook.says $H) (N := 4296) ?hl (Hook.of $H) (Hook.keeps $H) (fun s e => xl_of s (Bool.and_eq_true_iff.mp e).1) XL.keeps (by rfl) (by rfl) (by rfl) (fun s e => recFacts_of (Bool.and_eq_true_iff.mp e).2) (by rfl) (by first | assumption | decide +kernel) (by decide +kernel) ⟨rfl, rfl, rfl, rfl, rfl, by decide +kernel⟩ ?hw ?hc
    (case hl => exact LeftO.of_pieces (boot_open (by rfl) (by decide) (fun _ => rfl)) (fun w => by kernel_rfl) Mine.p_run (by rfl) (fun w => by kernel_rfl))))
open_top hd for PySem.Challenge.rw_on0344_01
end
open PySem.Spec PySem.Calls
/-- the walk by the plain arms from here on -/
theorem plain_arms : True := by
  w_top off
  trivial
/-! part: Base -/
section
theorem News.sub {h₀ h : Heap} {L : Addr} {led led' : List (Addr × Obj)} (N : News h₀ L h led) (hs : ∀ p ∈ led', p ∈ led) : News h₀ L h led' := fun p hp => N p (hs p hp)
def Hold (P : Prop) : Prop := P
theorem hold {P : Prop} (h : Hold P) : P := h
/-- a mark: hold here -/
def Mark : Prop := True
def sameN {g h : Heap} {L : Addr} {led : List (Addr × Obj)} (_ : News g L h led) (h' : Heap) (led' : List (Addr × Obj)) : Prop := News g L h' led'
def sameF {g h : Heap} {L : Addr} {m : PySem.Str → Option Value} (_ : Fr g L h m) (h' : Heap) : Prop := Fr g L h' m
theorem room2 {D n i j L : Nat} (h : D + n < L) (e : i + j ≤ n) : D + i + j < L := by omega
theorem room1 {D n i L : Nat} (h : D + n < L) (e : i ≤ n) : D + i < L := by omega
theorem room0 {D n L : Nat} (h : D + n < L) : D < L := by omega
/-- many things at once, in one step -/
inductive Ex2 {α0 α1 : Type} (p : α0 → α1 → Prop) : Prop
  | mk (a0 : α0) (a1 : α1) (h : p a0 a1) : Ex2 p
inductive Ex3 {α0 α1 α2 : Type} (p : α0 → α1 → α2 → Prop) : Prop
  | mk (a0 : α0) (a1 : α1) (a2 : α2) (h : p a0 a1 a2) : Ex3 p
inductive Ex4 {α0 α1 α2 α3 : Type} (p : α0 → α1 → α2 → α3 → Prop) : Prop
  | mk (a0 : α0) (a1 : α1) (a2 : α2) (a3 : α3) (h : p a0 a1 a2 a3) : Ex4 p
inductive Ex5 {α0 α1 α2 α3 α4 : Type} (p : α0 → α1 → α2 → α3 → α4 → Prop) : Prop
  | mk (a0 : α0) (a1 : α1) (a2 : α2) (a3 : α3) (a4 : α4) (h : p a0 a1 a2 a3 a4) : Ex5 p
inductive Ex6 {α0 α1 α2 α3 α4 α5 : Type} (p : α0 → α1 → α2 → α3 → α4 → α5 → Prop) : Prop
  | mk (a0 : α0) (a1 : α1) (a2 : α2) (a3 : α3) (a4 : α4) (a5 : α5) (h : p a0 a1 a2 a3 a4 a5) : Ex6 p
inductive Ex8 {α0 α1 α2 α3 α4 α5 α6 α7 : Type} (p : α0 → α1 → α2 → α3 → α4 → α5 → α6 → α7 → Prop) : Prop
  | mk (a0 : α0) (a1 : α1) (a2 : α2) (a3 : α3) (a4 : α4) (a5 : α5) (a6 : α6) (a7 : α7) (h : p a0 a1 a2 a3 a4 a5 a6 a7) : Ex8 p
inductive Ex11 {α0 α1 α2 α3 α4 α5 α6 α7 α8 α9 α10 : Type} (p : α0 → α1 → α2 → α3 → α4 → α5 → α6 → α7 → α8 → α9 → α10 → Prop) : Prop
  | mk (a0 : α0) (a1 : α1) (a2 : α2) (a3 : α3) (a4 : α4) (a5 : α5) (a6 : α6) (a7 : α7) (a8 : α8) (a9 : α9) (a10 : α10) (h : p a0 a1 a2 a3 a4 a5 a6 a7 a8 a9 a10) : Ex11 p
inductive An3 (q0 q1 q2 : Prop) : Prop
  | mk (h0 : q0) (h1 : q1) (h2 : q2) : An3 q0 q1 q2
inductive An4 (q0 q1 q2 q3 : Prop) : Prop
  | mk (h0 : q0) (h1 : q1) (h2 : q2) (h3 : q3) : An4 q0 q1 q2 q3
inductive An5 (q0 q1 q2 q3 q4 : Prop) : Prop
  | mk (h0 : q0) (h1 : q1) (h2 : q2) (h3 : q3) (h4 : q4) : An5 q0 q1 q2 q3 q4
inductive An6 (q0 q1 q2 q3 q4 q5 : Prop) : Prop
  | mk (h0 : q0) (h1 : q1) (h2 : q2) (h3 : q3) (h4 : q4) (h5 : q5) : An6 q0 q1 q2 q3 q4 q5
inductive An7 (q0 q1 q2 q3 q4 q5 q6 : Prop) : Prop
  | mk (h0 : q0) (h1 : q1) (h2 : q2) (h3 : q3) (h4 : q4) (h5 : q5) (h6 : q6) : An7 q0 q1 q2 q3 q4 q5 q6
inductive An11 (q0 q1 q2 q3 q4 q5 q6 q7 q8 q9 q10 : Prop) : Prop
  | mk (h0 : q0) (h1 : q1) (h2 : q2) (h3 : q3) (h4 : q4) (h5 : q5) (h6 : q6) (h7 : q7) (h8 : q8) (h9 : q9) (h10 : q10) : An11 q0 q1 q2 q3 q4 q5 q6 q7 q8 q9 q10
/-- what a call of the def at f, upon the arguments vs and the ledger news, hands back -/
def Ctr (w : World) (mean : ExcName → Option Value) (mg mb : PySem.Str → Option Value) (f : Addr) (vs : List Value) (news : List (Addr × Obj)) (dd uu : Nat) (Post : Value → List (Addr × Obj) → Prop) : Prop :=
  ∀ (dp un : Nat) (gd : Option (List Code)) (cn : PySem.Str) (cs : Scope) (a : Addr) (ccd : Value) (cl : List (PySem.Str × Addr)) (outer : List Env) (A₀ : Around) (base h₀ : Heap) (L : Addr) (m : PySem.Str → Option Value) (s : Shared) (Q E : Value → Shared → Prop),
    Below A₀ base outer h₀ → Fr h₀ L s.heap m → (Mine.hd.heap_1 w.params).In h₀ → News h₀ L s.heap news →
    Top Mine.q (looseW Mine.q [PySem.Str.ofString "IpHeader"]) mean mg mb h₀ → cs.kind = .function → dp + dd < recursionLimit → un + uu < cLine →
    (∀ r h' tk' news', Fr h₀ L h' m → News h₀ L h' news' → Post r news' → Q r { s with heap := h', toks := tk' }) →
    wpAny (model PySem.Challenge.rw_on0344_01.row.prog w) (ktrTop dp un gd cn cs L a ccd cl outer) (call (.ref f) vs) Q E s

section
variable {w : World} {mean : ExcName → Option Value} {mg mb : PySem.Str → Option Value} {f : Addr} {vs : List Value} {news led : List (Addr × Obj)} {dd uu : Nat} {Post : Value → List (Addr × Obj) → Prop}
theorem Ctr.use {dp un : Nat} {gd : Option (List Code)} {cn : PySem.Str} {cs : Scope} {a : Addr} {ccd : Value} {cl : List (PySem.Str × Addr)} {outer : List Env} {A₀ : Around} {base h₀ : Heap} {L : Addr} {m : PySem.Str → Option Value} {s : Shared} {Q E : Value → Shared → Prop}
    (F : Fr h₀ L s.heap m) (N : News h₀ L s.heap led) (C : Ctr w mean mg mb f vs news dd uu Post) (hs : ∀ p ∈ news, p ∈ led) (B : Below A₀ base outer h₀) (X : (Mine.hd.heap_1 w.params).In h₀)
    (T : Top Mine.q (looseW Mine.q [PySem.Str.ofString "IpHeader"]) mean mg mb h₀) (hk : cs.kind = .function) (hd : dp + dd < recursionLimit) (hu : un + uu < cLine)
    (ret : ∀ r h' tk' news', Fr h₀ L h' m → News h₀ L h' news' → Post r news' → Q r { s with heap := h', toks := tk' }) :
    wpAny (model PySem.Challenge.rw_on0344_01.row.prog w) (ktrTop dp un gd cn cs L a ccd cl outer) (call (.ref f) vs) Q E s :=
  C _ _ _ _ _ _ _ _ _ _ _ _ _ _ _ _ _ B F X (fun p hp => N p (hs p hp)) T hk hd hu ret

theorem sub_refl {l : List (Addr × Obj)} : ∀ p ∈ l, p ∈ l := fun _ h => h
theorem sub_tail {p : Addr × Obj} {l r : List (Addr × Obj)} (h : ∀ q ∈ l, q ∈ r) : ∀ q ∈ l, q ∈ p :: r := fun q hq => .tail _ (h q hq)
theorem mulOk_lcg (b y : Int) : IntMulOk ((b * 39373 + 7).fmod 2147483647) y :=
  .of_left (intBits_le_64 (by have := Int.fmod_nonneg_of_pos (b * 39373 + 7) (b := 2147483647) (by decide); omega) (by have := Int.fmod_lt_of_pos (b * 39373 + 7) (b := 2147483647) (by decide); omega))
end
end
/-! part: LoopR -/
section
theorem Fr.only {h₀ h : Heap} {L : Addr} {m m₀ : PySem.Str → Option Value} (stored : List PySem.Str) (F : Fr h₀ L h m) (hk : ∀ z, stored.contains z = false → m z = m₀ z) :
    Fr h₀ L h (fun z => if stored.contains z then m z else m₀ z) := by
  have e : (fun z => if stored.contains z then m z else m₀ z) = m := by
    funext z
    cases hz : stored.contains z with
    | true => simp
    | false => simp [hk z hz]
  rw [e]; exact F
section
variable {prog : Program} {w : World} {A : Around} {E : Value → Shared → Prop} {s : Shared} {env : Env} {h₀ : Heap} {target : PySem.Expr} {body : List Stmt} {Q : Flow → Shared → Prop}

def LoopG (prog : Program) (w : World) (A : Around) (env : Env) (target : PySem.Expr) (body : List Stmt) (Q : Flow → Shared → Prop) (E : Value → Shared → Prop) (it : Value) (s₂ : Shared) : Prop :=
  codeAny (model prog w) A (.forLoop target it body [] env) (fun r s' => match r with | .ok f => Q f s' | .error e => cameBackBy (model prog w) A env E e s') s₂
theorem my_For {iter : PySem.Expr} {pos : Pos}
    (h : wpAny (model prog w) A (eval iter env) (fun x s₁ => wpAny (model prog w) A (pyIter x) (fun it s₂ => LoopG prog w A env target body Q E it s₂) E s₁) E s)
    (hs : ∀ x, foldedSetIterable iter env x = pure x := by intro _; rfl) :
    wpAny (model prog w) A (exec (.For target iter body [] pos) env) Q E s := wpAny_For h hs

/-- the end of a turn -/
def TurnEnd (h₀ : Heap) (L I : Addr) (oI : Obj) (J : (PySem.Str → Option Value) → List (Addr × Obj) → Prop) (s₀ : Shared) (Q : Flow → Shared → Prop) (f : Flow) (s₃ : Shared) : Prop :=
  match f with
  | .ret v => Q (.ret v) s₃
  | .brk => Q .next s₃
  | _ => ∃ h' tk' m' nx', s₃ = { s₀ with heap := h', toks := tk' } ∧ Fr h₀ L h' m' ∧ News h₀ L h' ((I, oI) :: nx') ∧ (∀ p ∈ nx', p.1 ≠ I) ∧ J m' nx'
theorem TurnEnd.intro {L I : Addr} {oI : Obj} {J : (PySem.Str → Option Value) → List (Addr × Obj) → Prop} {s₀ : Shared} {h' : Heap} {tk' : Nat} {m' : PySem.Str → Option Value} {news' nx' : List (Addr × Obj)}
    (F : Fr h₀ L h' m') (N : News h₀ L h' news') (hs : ∀ p ∈ (I, oI) :: nx', p ∈ news') (hI : ∀ p ∈ nx', p.1 ≠ I) (j : J m' nx') : TurnEnd h₀ L I oI J s₀ Q .next { s₀ with heap := h', toks := tk' } :=
  ⟨h', tk', m', nx', rfl, F, fun p hp => N p (hs p hp), hI, j⟩
theorem TurnEnd.introC {L I : Addr} {oI : Obj} {J : (PySem.Str → Option Value) → List (Addr × Obj) → Prop} {s₀ : Shared} {h' : Heap} {tk' : Nat} {m' : PySem.Str → Option Value} {news' nx' : List (Addr × Obj)}
    (F : Fr h₀ L h' m') (N : News h₀ L h' news') (hs : ∀ p ∈ (I, oI) :: nx', p ∈ news') (hI : ∀ p ∈ nx', p.1 ≠ I) (j : J m' nx') : TurnEnd h₀ L I oI J s₀ Q .cont { s₀ with heap := h', toks := tk' } :=
  ⟨h', tk', m', nx', rfl, F, fun p hp => N p (hs p hp), hI, j⟩

/-- what a turn leans on: R is the way on from its end -/
structure TurnR (h₀ : Heap) (L I : Addr) (oI : Obj) (J : (PySem.Str → Option Value) → List (Addr × Obj) → Prop) (s₀ : Shared) (Q R : Flow → Shared → Prop) : Prop where
  next : ∀ {h' : Heap} {tk' : Nat} {m' : PySem.Str → Option Value} {news' nx' : List (Addr × Obj)}, Fr h₀ L h' m' → News h₀ L h' news' → (∀ p ∈ (I, oI) :: nx', p ∈ news') → (∀ p ∈ nx', p.1 ≠ I) → J m' nx' → R .next { s₀ with heap := h', toks := tk' }
  cont : ∀ {h' : Heap} {tk' : Nat} {m' : PySem.Str → Option Value} {news' nx' : List (Addr × Obj)}, Fr h₀ L h' m' → News h₀ L h' news' → (∀ p ∈ (I, oI) :: nx', p ∈ news') → (∀ p ∈ nx', p.1 ≠ I) → J m' nx' → R .cont { s₀ with heap := h', toks := tk' }
  brk : ∀ {s₃ : Shared}, Q .next s₃ → R .brk s₃
theorem TurnR.own {L I : Addr} {oI : Obj} {J : (PySem.Str → Option Value) → List (Addr × Obj) → Prop} {s₀ : Shared} : TurnR h₀ L I oI J s₀ Q (TurnEnd h₀ L I oI J s₀ Q) :=
  ⟨fun F N hs hI j => TurnEnd.intro F N hs hI j, fun F N hs hI j => TurnEnd.introC F N hs hI j, fun q => q⟩
theorem loopW {I : Addr} {fp wr : List Addr} {n : Nat} {P : Nat → Value → Prop} {St : Nat → Heap → Prop} {m : PySem.Str → Option Value} {news : List (Addr × Obj)} (J : Nat → (PySem.Str → Option Value) → List (Addr × Obj) → Prop)
    (W : Walks prog w A I fp wr n P St) (hwr : wr = [I]) (hI0 : h₀.get? I = none) (hIL : I ≠ env.locals) (hIs : ∀ i h, St i h → ∃ o, h.get? I = some o)
    (hfix : ∀ b ∈ fp, b = I ∨ (∃ o, h₀.get? b = some o) ∨ ∃ o, ∀ i m nx, J i m nx → (b, o) ∈ nx)
    (hE : PassesOwn (model prog w) A env E)
    (hgo : ∀ i v (s : Shared) (Q : Unit → Shared → Prop) (E : Value → Shared → Prop), St (i + 1) s.heap → P i v → Q () s → wpAny (model prog w) A (letOwnedTupleGo target (.ref I) v) Q E s)
    (st0 : St 0 s.heap) (F : Fr h₀ env.locals s.heap m) (N : News h₀ env.locals s.heap news) (hn : ∀ p ∈ news, p.1 ≠ I) (j0 : J 0 m news)
    (turn : ∀ i v m₁ nx h tk oI, i < n → P i v → J i m₁ nx → (∀ p ∈ nx, p.1 ≠ I) → Fr h₀ env.locals h m₁ → News h₀ env.locals h ((I, oI) :: nx) →
      wpAny (model prog w) A (assign target env v) (fun _ s₂ => wpAny (model prog w) A (execs body env) (TurnEnd h₀ env.locals I oI (J (i + 1)) { s with heap := h, toks := tk } Q) E s₂) E { s with heap := h, toks := tk })
    (done : ∀ m₁ nx h tk, J n m₁ nx → Fr h₀ env.locals h m₁ → News h₀ env.locals h nx → Q .next { s with heap := h, toks := tk }) :
    LoopG prog w A env target body Q E (.ref I) s := by
  subst hwr
  unfold LoopG
  refine codeAny_forLoop_any
    (fun k s' => ∃ h' tk m' nx i, s' = { s with heap := h', toks := tk } ∧ St i h' ∧ Fr h₀ env.locals h' m' ∧ News h₀ env.locals h' nx ∧ (∀ p ∈ nx, p.1 ≠ I) ∧ J i m' nx ∧ i ≤ n ∧ k = n + 1 - i) ?_ (n + 1)
    ⟨s.heap, s.toks, m, news, 0, rfl, st0, F, N, hn, j0, Nat.zero_le _, rfl⟩
  rintro k s' ⟨h', tk, m', nx, i, rfl, hst, F', N', hn', hJ, hi, rfl⟩
  have next : ∀ h₁ : Heap, (∀ b o, b ∉ [I] → h'.get? b = some o → h₁.get? b = some o) → Fr h₀ env.locals h₁ m' ∧ News h₀ env.locals h₁ nx := fun h₁ hk₁ =>
    ⟨⟨F'.ns.at' fun o e => hk₁ _ o (by simp; exact fun q => hIL q.symm) e, fun b o e => hk₁ b o (by simp; rintro rfl; rw [hI0] at e; cases e) (F'.keep b o e), F'.above⟩,
     fun p hp => ⟨hk₁ _ _ (by simp; exact hn' p hp) (N' p hp).1, (N' p hp).2⟩⟩
  by_cases hlt : i < n
  · refine W.item i _ _ _ hlt hst fun v h₁ tk₁ hP hst₁ hk₁ => ?_
    obtain ⟨F₁, N₁⟩ := next h₁ hk₁
    obtain ⟨oI, hoI⟩ := hIs _ _ hst₁
    have NI : News h₀ env.locals h₁ ((I, oI) :: nx) := fun p hp => by
      rcases List.mem_cons.mp hp with rfl | hp
      · exact ⟨hoI, hIL, hI0⟩
      · exact N₁ p hp
    refine wpAny_passesOwn hE (hgo i v _ _ _ hst₁ hP ?_)
    refine wpAny_passesOwn hE ?_
    refine wpAny_mono (turn i v m' nx h₁ tk₁ oI hlt hP hJ hn' F₁ NI) (fun _ s₂ h₂ => ?_) fun _ _ x => x
    refine wpAny_passesOwn hE ?_
    refine wpAny_mono h₂ (fun f s₃ h₃ => ?_) fun _ _ x => x
    have fin : (∃ h₃' tk' m₂ nx', s₃ = { s with heap := h₃', toks := tk' } ∧ Fr h₀ env.locals h₃' m₂ ∧ News h₀ env.locals h₃' ((I, oI) :: nx') ∧ (∀ p ∈ nx', p.1 ≠ I) ∧ J (i + 1) m₂ nx') →
        ∃ k', k' < n + 1 - i ∧ ∃ h' tk m' nx i, s₃ = { s with heap := h', toks := tk } ∧ St i h' ∧ Fr h₀ env.locals h' m' ∧ News h₀ env.locals h' nx ∧ (∀ p ∈ nx, p.1 ≠ I) ∧ J i m' nx ∧ i ≤ n ∧ k' = n + 1 - i := by
      rintro ⟨h₃', tk', m₂, nx', rfl, F₃, N₃, hn₃, hJ₃⟩
      refine ⟨n + 1 - (i + 1), by omega, h₃', tk', m₂, nx', i + 1, rfl, ?_, F₃, fun p hp => N₃ p (.tail _ hp), hn₃, hJ₃, hlt, rfl⟩
      refine W.frame _ _ _ hst₁ fun b hb o e => ?_
      rcases hfix b hb with rfl | ⟨o₀, h0⟩ | ⟨o₀, hm⟩
      · rw [hoI] at e; cases e; exact (N₃ _ (.head _)).1
      · have := F₁.keep b o₀ h0
        rw [e] at this; cases this; exact F₃.keep b o h0
      · have := (N₁ _ (hm i m' nx hJ)).1
        rw [e] at this; cases this
        exact (N₃ _ (.tail _ (hm _ _ _ hJ₃))).1
    cases f with
    | ret v => exact h₃
    | brk => exact h₃
    | cont => exact fin h₃
    | next => exact fin h₃
  · have hin : i = n := by omega
    subst hin
    refine W.done _ _ _ hst fun h₁ tk₁ hk₁ => wpAny_execs_nil ?_
    obtain ⟨F₁, N₁⟩ := next h₁ hk₁
    exact done m' nx h₁ tk₁ hJ F₁ N₁

/-- a loop over a list of the ledger's that the turns leave alone -/
theorem loop_list {l : Addr} {vs : List Value} {c : Nat} {m : PySem.Str → Option Value} {news : List (Addr × Obj)} (J : Nat → (PySem.Str → Option Value) → List (Addr × Obj) → Prop)
    (hh : A.handled = none) (hE : PassesOwn (model prog w) A env E) (F : Fr h₀ env.locals s.heap m) (N : News h₀ env.locals s.heap news)
    (hl : ∀ i m nx, J i m nx → (l, listOf vs.toArray c) ∈ nx) (j0 : J 0 m news)
    (hgo : ∀ I i (v : Value) (s : Shared) (Q : Unit → Shared → Prop) (E : Value → Shared → Prop), s.heap.IsListIter I l i → v ∈ vs → Q () s → wpAny (model prog w) A (letOwnedTupleGo target (.ref I) v) Q E s)
    (turn : ∀ i v m₁ nx h tk I oI (R : Flow → Shared → Prop), TurnR h₀ env.locals I oI (J (i + 1)) { s with heap := h, toks := tk } Q R → vs[i]? = some v → J i m₁ nx → (∀ p ∈ nx, p.1 ≠ I) → Fr h₀ env.locals h m₁ → News h₀ env.locals h ((I, oI) :: nx) →
      wpAny (model prog w) A (assign target env v) (fun _ s₂ => wpAny (model prog w) A (execs body env) R E s₂) E { s with heap := h, toks := tk })
    (done : ∀ m₁ nx h tk, J vs.length m₁ nx → Fr h₀ env.locals h m₁ → News h₀ env.locals h nx → Q .next { s with heap := h, toks := tk }) :
    wpAny (model prog w) A (pyIter (.ref l)) (fun it s₂ => LoopG prog w A env target body Q E it s₂) E s := by
  have hm := N _ (hl 0 m news j0)
  have hls : s.heap.IsList l vs.toArray := ⟨_, hm.1, rfl, c, rfl⟩
  have hlt : l < s.heap.objs.size := Heap.lt_size hm.1
  have hne : l ≠ s.heap.objs.size := Nat.ne_of_lt hlt
  refine wpAny_pyIter_list hls ?_
  have W := Walks.list (prog := prog) (w := w) hh s.heap.objs.size l hne vs.toArray
  refine loopW (s := { s with heap := s.heap.push { cls := .type "list_iterator", data := .fields #[.ref l, .int 0 0] } }) (h₀ := h₀) (m := m) (news := news) J W rfl (next_is_new F) (Nat.ne_of_gt F.ns.lt) ?_ ?_ hE ?_
    ⟨⟨_, Heap.get?_push_size _ rfl, rfl, rfl⟩, hls.at fun o e => Heap.get?_push_of_some _ e⟩ (F.push _) (fun p hp => ⟨Heap.get?_push_of_some _ (N p hp).1, (N p hp).2⟩) (fun p hp => Nat.ne_of_lt (Heap.lt_size (N p hp).1)) j0 ?_ ?_
  · rintro i h ⟨⟨o, ho, _⟩, _⟩; exact ⟨o, ho⟩
  · intro b hb
    rcases List.mem_cons.mp hb with rfl | hb
    · exact .inl rfl
    · obtain rfl := List.mem_singleton.mp hb
      exact .inr (.inr ⟨_, hl⟩)
  · intro i v s' Q' E' st hP hq
    have hv : vs[i]? = some v := by simpa using hP
    exact hgo _ _ v s' Q' E' st.1 (List.mem_of_getElem? hv) hq
  · intro i v m₁ nx h tk oI hi hP hJ hn' F₁ N₁
    exact turn i v m₁ nx h tk _ oI _ .own (by simpa using hP) hJ hn' F₁ N₁
  · intro m₁ nx h tk hJ F₁ N₁
    exact done m₁ nx h tk (by simpa using hJ) F₁ N₁
theorem loop_listS {l : Addr} {vs : List Value} {c : Nat} {m : PySem.Str → Option Value} {news : List (Addr × Obj)} (stored : List PySem.Str) (J : Nat → List (Addr × Obj) → Prop)
    (hh : A.handled = none) (hE : PassesOwn (model prog w) A env E) (F : Fr h₀ env.locals s.heap m) (N : News h₀ env.locals s.heap news)
    (hl : ∀ i nx, J i nx → (l, listOf vs.toArray c) ∈ nx) (j0 : ∃ news', (∀ p ∈ news', p ∈ news) ∧ J 0 news')
    (hgo : ∀ I i (v : Value) (s : Shared) (Q : Unit → Shared → Prop) (E : Value → Shared → Prop), s.heap.IsListIter I l i → v ∈ vs → Q () s → wpAny (model prog w) A (letOwnedTupleGo target (.ref I) v) Q E s)
    (turn : ∀ i v (u : PySem.Str → Option Value) nx h tk I oI (R : Flow → Shared → Prop), TurnR h₀ env.locals I oI (fun m' nx' => (∀ z, stored.contains z = false → m' z = m z) ∧ J (i + 1) nx') { s with heap := h, toks := tk } Q R → vs[i]? = some v → J i nx → (∀ p ∈ nx, p.1 ≠ I) → Fr h₀ env.locals h (fun z => if stored.contains z then u z else m z) → News h₀ env.locals h ((I, oI) :: nx) →
      wpAny (model prog w) A (assign target env v) (fun _ s₂ => wpAny (model prog w) A (execs body env) R E s₂) E { s with heap := h, toks := tk })
    (done : ∀ (u : PySem.Str → Option Value) nx h tk, J vs.length nx → Fr h₀ env.locals h (fun z => if stored.contains z then u z else m z) → News h₀ env.locals h nx → Q .next { s with heap := h, toks := tk }) :
    wpAny (model prog w) A (pyIter (.ref l)) (fun it s₂ => LoopG prog w A env target body Q E it s₂) E s := by
  obtain ⟨news', hs, j0⟩ := j0
  refine loop_list (fun i m' nx => (∀ z, stored.contains z = false → m' z = m z) ∧ J i nx) hh hE F (fun p hp => N p (hs p hp)) (fun i m nx j => hl i nx j.2) ⟨fun _ _ => rfl, j0⟩ hgo ?_ ?_
  · rintro i v m₁ nx h tk I oI R K hv ⟨hm, hj⟩ hI F₁ N₁
    exact turn i v m₁ nx h tk I oI R K hv hj hI (Fr.only stored F₁ hm) N₁
  · rintro m₁ nx h tk ⟨hm, hj⟩ F₁ N₁
    exact done m₁ nx h tk hj (Fr.only stored F₁ hm) N₁
theorem go_tuple {elts : List PySem.Expr} {x1} {pos : Pos} {l : Addr} {vs : List Value} (hv : ∀ v ∈ vs, ∃ T, v = .ref T) (I i : Nat) (v : Value) (s : Shared) (Q : Unit → Shared → Prop) (E : Value → Shared → Prop)
    (hit : s.heap.IsListIter I l i) (hm : v ∈ vs) (hQ : Q () s) : wpAny (model prog w) A (letOwnedTupleGo (.Tuple elts x1 pos) (.ref I) v) Q E s := by
  obtain ⟨T, rfl⟩ := hv v hm
  exact wpAny_letOwnedTupleGo_listiter hit hQ
end
end
/-! part: Pure -/
section
/-- tuples, as the walk makes them -/
abbrev tupO (vs : List Value) : Obj := { cls := .type "tuple", data := .seq vs.toArray }
inductive PairsIn (led : List (Addr × Obj)) : List Value → List (Int × Int) → Prop where
  | nil : PairsIn led [] []
  | cons {a : Addr} {t u : Tok} {x y : Int} {vs : List Value} {ps : List (Int × Int)} : (a, tupO [.int x t, .int y u]) ∈ led → PairsIn led vs ps → PairsIn led (.ref a :: vs) ((x, y) :: ps)
section
variable {led led' : List (Addr × Obj)} {vs ws : List Value} {ps qs : List (Int × Int)}
theorem PairsIn.mono (hs : ∀ p ∈ led, p ∈ led') (h : PairsIn led vs ps) : PairsIn led' vs ps := by
  induction h with
  | nil => exact .nil
  | cons hm _ ih => exact .cons (hs _ hm) ih
theorem PairsIn.append (h : PairsIn led vs ps) (k : PairsIn led ws qs) : PairsIn led (vs ++ ws) (ps ++ qs) := by
  induction h with
  | nil => exact k
  | cons hm _ ih => exact .cons hm ih
theorem PairsIn.length (h : PairsIn led vs ps) : vs.length = ps.length := by
  induction h with
  | nil => rfl
  | cons _ _ ih => simp [ih]
inductive PairAt (led : List (Addr × Obj)) (ps : List (Int × Int)) (i : Nat) (v : Value) : Prop
  | mk (a : Addr) (t u : Tok) (x y : Int) (e : v = .ref a) (h1 : ps[i]? = some (x, y)) (h2 : (a, tupO [.int x t, .int y u]) ∈ led)
theorem PairsIn.at (h : PairsIn led vs ps) {i : Nat} {v : Value} (hv : vs[i]? = some v) : PairAt led ps i v := by
  induction h generalizing i with
  | nil => simp at hv
  | @cons a t u x y vs ps hm _ ih =>
    cases i with
    | zero => simp at hv; exact ⟨a, t, u, x, y, hv.symm, rfl, hm⟩
    | succ i => simp at hv; obtain ⟨a, t, u, x, y, e, h1, h2⟩ := ih hv; exact ⟨a, t, u, x, y, e, by simpa using h1, h2⟩
theorem PairsIn.refs (h : PairsIn led vs ps) : ∀ v ∈ vs, ∃ T, v = .ref T := fun v hv => by
  obtain ⟨i, hi⟩ := List.mem_iff_getElem?.mp hv
  obtain ⟨a, _, _, _, _, e, _⟩ := h.at hi
  exact ⟨a, e⟩
end
theorem cons_mem {p : Addr × Obj} {l L : List (Addr × Obj)} (h : p ∈ L) (t : ∀ q ∈ l, q ∈ L) : ∀ q ∈ p :: l, q ∈ L := List.forall_mem_cons.mpr ⟨h, t⟩
theorem cons_ne {p : Addr × Obj} {l : List (Addr × Obj)} {d : Addr} (h : @Ne Nat p.1 d) (t : ∀ q ∈ l, q.1 ≠ d) : ∀ q ∈ p :: l, q.1 ≠ d := List.forall_mem_cons.mpr ⟨h, t⟩
theorem allLt_mem {d : Addr} {l : List (Addr × Obj)} (h : AllLt d l) : ∀ p ∈ l, @LT.lt Nat _ p.1 d := by
  induction l with
  | nil => exact fun p hp => nomatch hp
  | cons q r ih =>
    intro p hp
    rcases List.mem_cons.mp hp with rfl | hp
    · exact h.1
    · exact ih h.2 p hp
theorem app_ne {nw rest : List (Addr × Obj)} {d : Addr} (h1 : ∀ p ∈ nw, p.1 ≠ d) (h2 : ∀ p ∈ rest, p.1 ≠ d) : ∀ p ∈ nw ++ rest, p.1 ≠ d := fun p hp => (List.mem_append.mp hp).elim (h1 p) (h2 p)
theorem ne_of_allLt {d : Addr} {l : List (Addr × Obj)} (h : AllLt d l) : ∀ p ∈ l, p.1 ≠ d := fun p hp => Nat.ne_of_lt (allLt_mem h p hp)
theorem take_succ_of {α : Type} {l : List α} {i : Nat} {x : α} (h : l[i]? = some x) : l.take (i + 1) = l.take i ++ [x] := by
  simp [List.take_add_one, h]

theorem flat_step {α β : Type} {rows : List α} {i : Nat} {r : α} (f : α → List β) (h : rows[i]? = some r) : (rows.take (i + 1)).flatMap f = (rows.take i).flatMap f ++ f r := by
  rw [take_succ_of h, List.flatMap_append]; simp
def mx (lo b : Int) : Int := if b > lo then b else lo
def mn (hi e : Int) : Int := if e < hi then e else hi
def foundOf (b e : Int) (r : Int × Int) : List (Int × Int) := if mn r.2 e ≤ mx r.1 b then [] else [(mx r.1 b, mn r.2 e)]
def restOf (b e : Int) (r : Int × Int) : List (Int × Int) :=
  if mn r.2 e ≤ mx r.1 b then [r] else (if r.1 < mx r.1 b then [(r.1, mx r.1 b)] else []) ++ (if mn r.2 e < r.2 then [(mn r.2 e, r.2)] else [])
theorem foundOf_len (b e : Int) (r : Int × Int) : (foundOf b e r).length ≤ 1 := by unfold foundOf; split <;> simp
theorem restOf_len (b e : Int) (r : Int × Int) : (restOf b e r).length ≤ 2 := by unfold restOf; (repeat' split) <;> simp
theorem flatMap_len {α β : Type} (f : α → List β) (k : Nat) (h : ∀ a, (f a).length ≤ k) : ∀ l : List α, (l.flatMap f).length ≤ k * l.length
  | [] => by simp
  | a :: l => by
    have ih := flatMap_len f k h l
    have := h a
    simp only [List.flatMap_cons, List.length_append, List.length_cons, Nat.mul_succ]
    omega
theorem take_len {α : Type} (l : List α) (i : Nat) : (l.take i).length ≤ l.length := by rw [List.length_take]; exact Nat.min_le_right _ _
theorem ne_of_stored {stored : List PySem.Str} {x z : PySem.Str} (hz : stored.contains z = false) (hx : stored.contains x = true) : z ≠ x := by
  rintro rfl; rw [hx] at hz; cases hz
theorem if_off {stored : List PySem.Str} {x z : PySem.Str} {a b c : Option Value} (hz : stored.contains z = false) (hx : stored.contains x = true) (h : b = c) : (if z = x then a else b) = c := by
  rw [if_neg (ne_of_stored hz hx)]; exact h
theorem if_offL {stored : List PySem.Str} {z : PySem.Str} {a b c : Option Value} (hz : stored.contains z = false) (h : b = c) : (if stored.contains z = true then a else b) = c := by
  rw [hz]; exact h
/-- new entries stand above the old ones -/
def Above (old nw : List (Addr × Obj)) : Prop := ∀ p ∈ nw, ∀ q ∈ old, q.1 < p.1
end
/-! part: Shapes -/
section
inductive IsHoles (o : Obj) (most : Int) (rl : Addr) : Prop
  | mk (g1 g2 : Int) (k1 k2 t : Tok) (h : o = dictOf [⟨g1, .str (Str.ofString "most") k1, .int most t⟩, ⟨g2, .str (Str.ofString "rows") k2, .ref rl⟩] 2)
inductive IsDgram (o : Obj) (y pl : Addr) (endv : Value) (ahead : Int) (firstv : Value) (size : Int) : Prop
  | mk (g1 g2 g3 g4 g5 g6 g7 g8 : Int) (k1 k2 k3 k4 k5 k6 k7 k8 : Tok) (bv : Value) (t2 t6 t8 : Tok) (h : o = dictOf [⟨g1, .str (Str.ofString "began") k1, bv⟩, ⟨g2, .str (Str.ofString "most") k2, .int 64 t2⟩, ⟨g3, .str (Str.ofString "holes") k3, .ref y⟩, ⟨g4, .str (Str.ofString "parts") k4, .ref pl⟩,
      ⟨g5, .str (Str.ofString "end") k5, endv⟩, ⟨g6, .str (Str.ofString "ahead") k6, .int ahead t6⟩, ⟨g7, .str (Str.ofString "first") k7, firstv⟩, ⟨g8, .str (Str.ofString "size") k8, .int size t8⟩] 8)
inductive IsHdr (o : Obj) (more : Bool) (off : Int) : Prop
  | mk (g1 g2 g3 g4 g5 g6 g7 g8 g9 g0 : Int) (k1 k2 k3 k4 k5 k6 k7 k8 k9 k0 : Tok) (v1 v2 v3 v4 v5 v6 v7 v0 : Value) (t9 : Tok) (h : o = dictOf [⟨g1, .str (Str.ofString "source") k1, v1⟩, ⟨g2, .str (Str.ofString "target") k2, v2⟩, ⟨g3, .str (Str.ofString "protocol") k3, v3⟩, ⟨g4, .str (Str.ofString "ident") k4, v4⟩,
      ⟨g5, .str (Str.ofString "ttl") k5, v5⟩, ⟨g6, .str (Str.ofString "tos") k6, v6⟩, ⟨g7, .str (Str.ofString "dont") k7, v7⟩, ⟨g8, .str (Str.ofString "more") k8, .bool more⟩, ⟨g9, .str (Str.ofString "offset") k9, .int off t9⟩,
      ⟨g0, .str (Str.ofString "options") k0, v0⟩] 10)
/-- None, or an int -/
def IsOpt (v : Value) (e : Option Int) : Prop := match e with | none => v = .none | some n => ∃ t, v = .int n t
def IsRefOpt (v : Value) (e : Option Addr) : Prop := match e with | none => v = .none | some n => v = .ref n
section
variable {w : World} {mean : ExcName → Option Value} {mg mb : PySem.Str → Option Value} {f : Addr} {vs : List Value} {news led : List (Addr × Obj)} {dd uu dd' uu' : Nat} {Post Post' : Value → List (Addr × Obj) → Prop}
theorem Ctr.mono (C : Ctr w mean mg mb f vs news dd uu Post) (h : ∀ r nx, Post r nx → Post' r nx) : Ctr w mean mg mb f vs news dd uu Post' := by
  intro dp un gd cn cs ca ccd cl outer A₀ base h₀ L m s Q E B F X N T hk hd hu hret
  exact C dp un gd cn cs ca ccd cl outer A₀ base h₀ L m s Q E B F X N T hk hd hu fun r h' tk' nx F' N' p => hret r h' tk' nx F' N' (h r nx p)
theorem Ctr.pre {P : Prop} (h : P → Ctr w mean mg mb f vs news dd uu Post) (hp : (∀ p ∈ news, p.1 ≠ 0 ∨ True) → P) : Ctr w mean mg mb f vs news dd uu Post := h (hp fun _ _ => .inr trivial)
end
end
/-! part: T3 -/
section
local macro_rules | `(tactic| k_all) => `(tactic| assumption)
local macro_rules | `(tactic| walk_at "binaryOp Mult int int") => `(tactic| with_unfolding_all refine mul_int ?_ (mulOk_lcg _ _))
inductive TakePost (sl : Addr) (k : Int) (rest : List (Addr × Obj)) (r : Value) (nx : List (Addr × Obj)) : Prop
  | mk (c : Int) (t : Tok) (a' b' : Int) (t1' t2' : Tok) (n' : Nat) (e : r = .int c t) (h1 : 0 ≤ c) (h2 : c < k) (h3 : 0 ≤ a') (h4 : 0 ≤ b') (h5 : b' < 2147483647) (h6 : nx = ((sl, listOf #[.int a' t1', .int b' t2'] n') :: rest))
inductive OnePost (sl : Addr) (ns : List Int) (rest : List (Addr × Obj)) (r : Value) (nx : List (Addr × Obj)) : Prop
  | mk (v : Int) (t : Tok) (a' b' : Int) (t1' t2' : Tok) (n' : Nat) (e : r = .int v t) (h1 : v ∈ ns) (h3 : 0 ≤ a') (h4 : 0 ≤ b') (h5 : b' < 2147483647) (h6 : nx = ((sl, listOf #[.int a' t1', .int b' t2'] n') :: rest))
inductive SrcPost (sl : Addr) (rest : List (Addr × Obj)) (r : Value) (nx : List (Addr × Obj)) : Prop
  | mk (e : r = .bool true) (a' b' : Int) (t1' t2' : Tok) (n' : Nat) (h3 : 0 ≤ a') (h4 : 0 ≤ b') (h5 : b' < 2147483647) (h6 : nx = ((sl, listOf #[.int a' t1', .int b' t2'] n') :: rest))
theorem take_ctr {w : World} {mean : ExcName → Option Value} {mg mb : PySem.Str → Option Value} {sl : Addr} {a b k : Int} {t1 t2 t3 : Tok} {n : Nat} {rest : List (Addr × Obj)}
   (h1 : 0 ≤ a) (h2 : 0 ≤ b) (h3 : b < 2147483647) (h4 : 0 < k) (h5 : k < 100) (hr : ∀ p ∈ rest, p.1 ≠ sl) :
   Ctr w mean mg mb 278 [.ref sl, .int k t3] ((sl, listOf #[.int a t1, .int b t2] n) :: rest) 2 16 
     (TakePost sl k rest) := by
  unfold Ctr
  k_fill
  intro dp un gd cn cs ca ccd cl outer A₀ base h₀ L m s Q E B F X N T hk hd hu hret
  refine wpAny_call ?_
  k_dflt ktr_enter
  k_steps
  · exact hret _ _ _ _ (by assumption) (by assumption) ⟨_, _, _, _, _, _, _, rfl, Int.fmod_nonneg_of_pos _ h4, Int.fmod_lt_of_pos _ h4, by
     show 0 ≤ a.fdiv k
     exact Int.fdiv_nonneg h1 (by omega), h2, h3, rfl⟩
  · exact hret _ _ _ _ (by assumption) (by assumption) ⟨_, _, _, _, _, _, _, rfl, Int.fmod_nonneg_of_pos _ h4, Int.fmod_lt_of_pos _ h4, h1, Int.fmod_nonneg_of_pos _ (by decide), Int.fmod_lt_of_pos _ (by decide), rfl⟩
end
/-! part: Fill -/
section
local macro_rules | `(tactic| walk_at "none") => `(tactic| skip)
local macro_rules | `(tactic| k_all) => `(tactic| assumption)
local macro_rules | `(tactic| k_mem) => `(tactic| (first | exact List.Mem.head _ | assumption | (refine' List.Mem.tail _ ?_; k_mem)))
local macro_rules | `(tactic| size_fits) => `(tactic| (simp only [List.size_toArray, Array.size_push, sizeLine_eq]; omega))
local macro_rules | `(tactic| walk_at "exec For Tuple Attribute cons nil") => `(tactic| (k_here; refine my_For ?_))
inductive FillPost (x dx rl : Addr) (b e most : Int) (t3 k1 k2 : Tok) (g1 g2 : Int) (rest : List (Addr × Obj)) (sl : Array (Option Value)) (rows : List (Int × Int)) (r : Value) (nx : List (Addr × Obj)) : Prop
  | mk (fl rl' : Addr) (fvs rvs : List Value) (cf cr : Nat) (nw : List (Addr × Obj)) (e1 : r = .ref fl) (e2 : nx = (x, ⟨.ref 123, some dx, .plain, sl⟩) :: (dx, dictOf [⟨g1, .str (Str.ofString "most") k1, .int most t3⟩, ⟨g2, .str (Str.ofString "rows") k2, .ref rl'⟩] 2) :: (nw ++ rest))
      (h1 : (fl, listOf fvs.toArray cf) ∈ nw) (h2 : (rl', listOf rvs.toArray cr) ∈ nw) (h3 : PairsIn nw fvs (rows.flatMap (foundOf b e))) (h4 : PairsIn nw rvs (rows.flatMap (restOf b e)))
      (h5 : Above ((x, ⟨.ref 123, some dx, .plain, sl⟩) :: (dx, dictOf [⟨g1, .str (Str.ofString "most") k1, .int most t3⟩, ⟨g2, .str (Str.ofString "rows") k2, .ref rl⟩] 2) :: rest) nw)
theorem fill_ctr {w : World} {mean : ExcName → Option Value} {mg mb : PySem.Str → Option Value} {x dx rl : Addr} {b e most : Int} {t1 t2 t3 k1 k2 : Tok} {g1 g2 : Int} {nr : Nat} {rest : List (Addr × Obj)} {sl : Array (Option Value)}
   {rowVals : List Value} {rows : List (Int × Int)}
   (hx : @Ne Nat x dx) (h1 : ∀ p ∈ rest, p.1 ≠ x) (h2 : ∀ p ∈ rest, p.1 ≠ dx) (hl : (rl, listOf rowVals.toArray nr) ∈ rest) (hp : PairsIn rest rowVals rows) (hn : rows.length < 1000) :
   Ctr w mean mg mb 99 [.ref x, .int b t1, .int e t2] ((x, ⟨.ref 123, some dx, .plain, sl⟩) :: (dx, dictOf [⟨g1, .str (Str.ofString "most") k1, .int most t3⟩, ⟨g2, .str (Str.ofString "rows") k2, .ref rl⟩] 2) :: rest) 2 16 
     (FillPost x dx rl b e most t3 k1 k2 g1 g2 rest sl rows) := by
  unfold Ctr
  k_fill
  intro dp un gd cn cs ca ccd cl outer A₀ base h₀ L m s Q E B F X N T hk hd hu hret
  refine wpAny_call ?_
  k_dflt ktr_enter
  rename Fr _ _ _ _ => lF
  replace lF : Fr _ _ _ (fun y => List.lookup y [(Str.ofString "end", Value.int e t2), (Str.ofString "begin", Value.int b t1), (Str.ofString "self", Value.ref x)]) := lF
  k_steps
  rename_i fl hh3 l1 hh2 tk1 rl' hh1 l2 hh0 F1 N1
  refine loop_listS (vs := rowVals) (c := nr) [Str.ofString "low", Str.ofString "high", Str.ofString "first", Str.ofString "last"]
    (fun i nx => Ex6 fun fvs rvs cf cr nw tl => An5 (tl = nw ++ rest) (nx = (fl, listOf (List.toArray fvs) cf) :: (rl', listOf (List.toArray rvs) cr) :: (x, ⟨.ref 123, some dx, .plain, sl⟩) :: (dx, dictOf [⟨g1, .str (Str.ofString "most") k1, .int most t3⟩, ⟨g2, .str (Str.ofString "rows") k2, .ref rl⟩] 2) :: tl)
      (PairsIn nw fvs ((rows.take i).flatMap (foundOf b e))) (PairsIn nw rvs ((rows.take i).flatMap (restOf b e))) (∀ p ∈ nw, fl < p.1 ∧ rl' < p.1))
    rfl (by passes_own) F1 N1 ?hl ?j0 (go_tuple hp.refs) ?turn ?done
  case j0 => exact ⟨_, by repeat (first | exact sub_refl | refine List.forall_mem_cons.mpr ⟨by k_mem, ?_⟩ | refine sub_tail ?_), [], [], 0, 0, [], rest, rfl, rfl, .nil, .nil, fun _ h => nomatch h⟩
  case hl =>
    rintro i nx ⟨fvs, rvs, cf, cr, nw, tl, rfl, rfl, -⟩
    simp [hl]
  case turn =>
    rintro i v u nx h tk I oI R9 K9 hv ⟨fvs, rvs, cf, cr, nw, tl, htl, rfl, pf, pr, ab⟩ hI F2 N2
    obtain ⟨a, t, u', lo, hi, rfl, hps, hmem⟩ := hp.at hv
    have hmem' : (a, tupO [.int lo t, .int hi u']) ∈ tl := by rw [htl]; exact List.mem_append_right _ hmem
    have y0 := l1.2.2
    have y1 : ∀ p ∈ tl, p.1 ≠ fl := by rw [htl]; exact app_ne (fun p hp => Nat.ne_of_gt (ab p hp).1) (ne_of_allLt l1.2.2)
    have y2 : ∀ p ∈ tl, p.1 ≠ rl' := by rw [htl]; exact app_ne (fun p hp => Nat.ne_of_gt (ab p hp).2) (ne_of_allLt l2.2.2.2)
    have y3 : ∀ p ∈ tl, p.1 ≠ x := by rw [htl]; exact app_ne (fun p hp => Nat.ne_of_gt (Nat.lt_trans l1.1 (ab p hp).1)) h1
    have y4 : ∀ p ∈ tl, p.1 ≠ dx := by rw [htl]; exact app_ne (fun p hp => Nat.ne_of_gt (Nat.lt_trans l1.2.1 (ab p hp).1)) h2
    have z1 : @Ne Nat I fl := fun e => hI (fl, _) (.head _) e.symm
    have z2 : @Ne Nat I rl' := fun e => hI (rl', _) (.tail _ (.head _)) e.symm
    have z3 : @Ne Nat I x := fun e => hI (x, _) (.tail _ (.tail _ (.head _))) e.symm
    have z4 : @Ne Nat I dx := fun e => hI (dx, _) (.tail _ (.tail _ (.tail _ (.head _)))) e.symm
    have z5 : ∀ p ∈ tl, p.1 ≠ I := fun p hp => hI p (.tail _ (.tail _ (.tail _ (.tail _ hp))))
    have w1 := pf.length
    have w2 := flatMap_len _ 1 (foundOf_len b e) (rows.take i)
    have w3 := pr.length
    have w4 := flatMap_len _ 2 (restOf_len b e) (rows.take i)
    have w5 := take_len rows i
    have w6 : fvs.length < 1000 := by omega
    have w7 : rvs.length < 2000 := by omega
    clear F1 N1 w1 w2 w3 w4 w5
    k_steps
    · rename_i hc D h9 l9 h8 F' N'
      simp only [List.push_toArray, List.append_assoc, List.cons_append, List.nil_append] at N'
      refine K9.cont F' N' (cons_mem (.tail _ (.head _)) (cons_mem (.tail _ (.tail _ (.head _))) (cons_mem (.tail _ (.tail _ (.tail _ (.head _)))) (cons_mem (.tail _ (.tail _ (.tail _ (.tail _ (.head _))))) (cons_mem (.tail _ (.tail _ (.tail _ (.tail _ (.tail _ (.head _)))))) (cons_mem (.head _) (fun _ h9 => (.tail _ (.tail _ (.tail _ (.tail _ (.tail _ (.tail _ h9))))))))))))) (cons_ne z1.symm (cons_ne z2.symm (cons_ne z3.symm (cons_ne z4.symm (cons_ne (Nat.ne_of_gt l9.1) z5))))) ⟨?_, fvs, rvs ++ [.ref D], cf, cr + 1, (D, tupO [.int lo t, .int hi u']) :: nw, (D, tupO [.int lo t, .int hi u']) :: tl, by rw [htl]; rfl, rfl, ?_, ?_, ?_⟩
      · intro z hz; repeat (first | refine if_off hz rfl ?_ | refine if_offL hz ?_ | exact rfl)
      · rw [flat_step _ hps, show foundOf b e (lo, hi) = [] from if_pos hc, List.append_nil]; exact (pf.mono (fun _ h => (.tail _ h)))
      · rw [flat_step _ hps, show restOf b e (lo, hi) = [(lo, hi)] from if_pos hc]; exact (pr.mono (fun _ h => (.tail _ h))).append (.cons (.head _) .nil)
      · exact List.forall_mem_cons.mpr ⟨⟨l9.2.1, l9.2.2.1⟩, ab⟩
    · rename_i hc D0 h9 l9 h8 tk1 c1 D1 h7 l7 h6 tk0 c2 D2 h5 l5 h4 F' N'
      simp only [List.push_toArray, List.append_assoc, List.cons_append, List.nil_append] at N'
      refine K9.next F' N' (cons_mem (.tail _ (.tail _ (.tail _ (.head _)))) (cons_mem (.tail _ (.tail _ (.tail _ (.tail _ (.head _))))) (cons_mem (.tail _ (.tail _ (.tail _ (.tail _ (.tail _ (.head _)))))) (cons_mem (.tail _ (.tail _ (.tail _ (.tail _ (.tail _ (.tail _ (.head _))))))) (cons_mem (.tail _ (.tail _ (.tail _ (.tail _ (.tail _ (.tail _ (.tail _ (.head _)))))))) (cons_mem (.head _) (cons_mem (.tail _ (.head _)) (cons_mem (.tail _ (.tail _ (.head _))) (fun _ h9 => (.tail _ (.tail _ (.tail _ (.tail _ (.tail _ (.tail _ (.tail _ (.tail _ h9))))))))))))))))) (cons_ne z1.symm (cons_ne z2.symm (cons_ne z3.symm (cons_ne z4.symm (cons_ne (Nat.ne_of_gt l5.2.2.1) (cons_ne (Nat.ne_of_gt l7.2.1) (cons_ne (Nat.ne_of_gt l9.1) z5))))))) ⟨?_, fvs ++ [.ref D0], rvs ++ [.ref D1, .ref D2], cf + 1, cr + 1 + 1, (D2, tupO [.int (if e < hi then e else hi) (if e < hi then t2 else u'), .int hi u']) :: (D1, tupO [.int lo t, .int (if b > lo then b else lo) (if b > lo then t1 else t)]) :: (D0, tupO [.int (if b > lo then b else lo) (if b > lo then t1 else t), .int (if e < hi then e else hi) (if e < hi then t2 else u')]) :: nw, (D2, tupO [.int (if e < hi then e else hi) (if e < hi then t2 else u'), .int hi u']) :: (D1, tupO [.int lo t, .int (if b > lo then b else lo) (if b > lo then t1 else t)]) :: (D0, tupO [.int (if b > lo then b else lo) (if b > lo then t1 else t), .int (if e < hi then e else hi) (if e < hi then t2 else u')]) :: tl, by rw [htl]; rfl, rfl, ?_, ?_, ?_⟩
      · intro z hz; repeat (first | refine if_off hz rfl ?_ | refine if_offL hz ?_ | exact rfl)
      · rw [flat_step _ hps, show foundOf b e (lo, hi) = [(mx lo b, mn hi e)] from if_neg hc]; exact (pf.mono (fun _ h => (.tail _ (.tail _ (.tail _ h))))).append (.cons (.tail _ (.tail _ (.head _))) .nil)
      · rw [flat_step _ hps, show restOf b e (lo, hi) = (if lo < mx lo b then [(lo, mx lo b)] else []) ++ (if mn hi e < hi then [(mn hi e, hi)] else []) from if_neg hc, show (if lo < mx lo b then [(lo, mx lo b)] else []) = [(lo, mx lo b)] from if_pos c1, show (if mn hi e < hi then [(mn hi e, hi)] else []) = [(mn hi e, hi)] from if_pos c2]; exact (pr.mono (fun _ h => (.tail _ (.tail _ (.tail _ h))))).append (.cons (.tail _ (.head _)) (.cons (.head _) .nil))
      · exact List.forall_mem_cons.mpr ⟨⟨l5.2.2.2.1, l5.2.2.2.2.1⟩, List.forall_mem_cons.mpr ⟨⟨l7.2.2.1, l7.2.2.2.1⟩, List.forall_mem_cons.mpr ⟨⟨l9.2.1, l9.2.2.1⟩, ab⟩⟩⟩
    · rename_i hc D0 h9 l9 h8 tk0 c1 D1 h7 l7 h6 F' N' c2
      simp only [List.push_toArray, List.append_assoc, List.cons_append, List.nil_append] at N'
      refine K9.next F' N' (cons_mem (.tail _ (.tail _ (.head _))) (cons_mem (.tail _ (.tail _ (.tail _ (.head _)))) (cons_mem (.tail _ (.tail _ (.tail _ (.tail _ (.head _))))) (cons_mem (.tail _ (.tail _ (.tail _ (.tail _ (.tail _ (.head _)))))) (cons_mem (.tail _ (.tail _ (.tail _ (.tail _ (.tail _ (.tail _ (.head _))))))) (cons_mem (.head _) (cons_mem (.tail _ (.head _)) (fun _ h9 => (.tail _ (.tail _ (.tail _ (.tail _ (.tail _ (.tail _ (.tail _ h9))))))))))))))) (cons_ne z1.symm (cons_ne z2.symm (cons_ne z3.symm (cons_ne z4.symm (cons_ne (Nat.ne_of_gt l7.2.1) (cons_ne (Nat.ne_of_gt l9.1) z5)))))) ⟨?_, fvs ++ [.ref D0], rvs ++ [.ref D1], cf + 1, cr + 1, (D1, tupO [.int lo t, .int (if b > lo then b else lo) (if b > lo then t1 else t)]) :: (D0, tupO [.int (if b > lo then b else lo) (if b > lo then t1 else t), .int (if e < hi then e else hi) (if e < hi then t2 else u')]) :: nw, (D1, tupO [.int lo t, .int (if b > lo then b else lo) (if b > lo then t1 else t)]) :: (D0, tupO [.int (if b > lo then b else lo) (if b > lo then t1 else t), .int (if e < hi then e else hi) (if e < hi then t2 else u')]) :: tl, by rw [htl]; rfl, rfl, ?_, ?_, ?_⟩
      · intro z hz; repeat (first | refine if_off hz rfl ?_ | refine if_offL hz ?_ | exact rfl)
      · rw [flat_step _ hps, show foundOf b e (lo, hi) = [(mx lo b, mn hi e)] from if_neg hc]; exact (pf.mono (fun _ h => (.tail _ (.tail _ h)))).append (.cons (.tail _ (.head _)) .nil)
      · rw [flat_step _ hps, show restOf b e (lo, hi) = (if lo < mx lo b then [(lo, mx lo b)] else []) ++ (if mn hi e < hi then [(mn hi e, hi)] else []) from if_neg hc, show (if lo < mx lo b then [(lo, mx lo b)] else []) = [(lo, mx lo b)] from if_pos c1, show (if mn hi e < hi then [(mn hi e, hi)] else []) = [] from if_neg c2]; exact (pr.mono (fun _ h => (.tail _ (.tail _ h)))).append (.cons (.head _) .nil)
      · exact List.forall_mem_cons.mpr ⟨⟨l7.2.2.1, l7.2.2.2.1⟩, List.forall_mem_cons.mpr ⟨⟨l9.2.1, l9.2.2.1⟩, ab⟩⟩
    · rename_i hc D0 h9 l9 h8 tk0 c1 c2 D1 h7 l7 h6 F' N'
      simp only [List.push_toArray, List.append_assoc, List.cons_append, List.nil_append] at N'
      refine K9.next F' N' (cons_mem (.tail _ (.tail _ (.head _))) (cons_mem (.tail _ (.tail _ (.tail _ (.head _)))) (cons_mem (.tail _ (.tail _ (.tail _ (.tail _ (.head _))))) (cons_mem (.tail _ (.tail _ (.tail _ (.tail _ (.tail _ (.head _)))))) (cons_mem (.tail _ (.tail _ (.tail _ (.tail _ (.tail _ (.tail _ (.head _))))))) (cons_mem (.head _) (cons_mem (.tail _ (.head _)) (fun _ h9 => (.tail _ (.tail _ (.tail _ (.tail _ (.tail _ (.tail _ (.tail _ h9))))))))))))))) (cons_ne z1.symm (cons_ne z2.symm (cons_ne z3.symm (cons_ne z4.symm (cons_ne (Nat.ne_of_gt l7.2.1) (cons_ne (Nat.ne_of_gt l9.1) z5)))))) ⟨?_, fvs ++ [.ref D0], rvs ++ [.ref D1], cf + 1, cr + 1, (D1, tupO [.int (if e < hi then e else hi) (if e < hi then t2 else u'), .int hi u']) :: (D0, tupO [.int (if b > lo then b else lo) (if b > lo then t1 else t), .int (if e < hi then e else hi) (if e < hi then t2 else u')]) :: nw, (D1, tupO [.int (if e < hi then e else hi) (if e < hi then t2 else u'), .int hi u']) :: (D0, tupO [.int (if b > lo then b else lo) (if b > lo then t1 else t), .int (if e < hi then e else hi) (if e < hi then t2 else u')]) :: tl, by rw [htl]; rfl, rfl, ?_, ?_, ?_⟩
      · intro z hz; repeat (first | refine if_off hz rfl ?_ | refine if_offL hz ?_ | exact rfl)
      · rw [flat_step _ hps, show foundOf b e (lo, hi) = [(mx lo b, mn hi e)] from if_neg hc]; exact (pf.mono (fun _ h => (.tail _ (.tail _ h)))).append (.cons (.tail _ (.head _)) .nil)
      · rw [flat_step _ hps, show restOf b e (lo, hi) = (if lo < mx lo b then [(lo, mx lo b)] else []) ++ (if mn hi e < hi then [(mn hi e, hi)] else []) from if_neg hc, show (if lo < mx lo b then [(lo, mx lo b)] else []) = [] from if_neg c1, show (if mn hi e < hi then [(mn hi e, hi)] else []) = [(mn hi e, hi)] from if_pos c2]; exact (pr.mono (fun _ h => (.tail _ (.tail _ h)))).append (.cons (.head _) .nil)
      · exact List.forall_mem_cons.mpr ⟨⟨l7.2.2.1, l7.2.2.2.1⟩, List.forall_mem_cons.mpr ⟨⟨l9.2.1, l9.2.2.1⟩, ab⟩⟩
    · rename_i hc D0 h9 l9 h8 F' N' c1 c2
      simp only [List.push_toArray, List.append_assoc, List.cons_append, List.nil_append] at N'
      refine K9.next F' N' (cons_mem (.tail _ (.head _)) (cons_mem (.tail _ (.tail _ (.head _))) (cons_mem (.tail _ (.tail _ (.tail _ (.head _)))) (cons_mem (.tail _ (.tail _ (.tail _ (.tail _ (.head _))))) (cons_mem (.tail _ (.tail _ (.tail _ (.tail _ (.tail _ (.head _)))))) (cons_mem (.head _) (fun _ h9 => (.tail _ (.tail _ (.tail _ (.tail _ (.tail _ (.tail _ h9))))))))))))) (cons_ne z1.symm (cons_ne z2.symm (cons_ne z3.symm (cons_ne z4.symm (cons_ne (Nat.ne_of_gt l9.1) z5))))) ⟨?_, fvs ++ [.ref D0], rvs, cf + 1, cr, (D0, tupO [.int (if b > lo then b else lo) (if b > lo then t1 else t), .int (if e < hi then e else hi) (if e < hi then t2 else u')]) :: nw, (D0, tupO [.int (if b > lo then b else lo) (if b > lo then t1 else t), .int (if e < hi then e else hi) (if e < hi then t2 else u')]) :: tl, by rw [htl]; rfl, rfl, ?_, ?_, ?_⟩
      · intro z hz; repeat (first | refine if_off hz rfl ?_ | refine if_offL hz ?_ | exact rfl)
      · rw [flat_step _ hps, show foundOf b e (lo, hi) = [(mx lo b, mn hi e)] from if_neg hc]; exact (pf.mono (fun _ h => (.tail _ h))).append (.cons (.head _) .nil)
      · rw [flat_step _ hps, show restOf b e (lo, hi) = (if lo < mx lo b then [(lo, mx lo b)] else []) ++ (if mn hi e < hi then [(mn hi e, hi)] else []) from if_neg hc, show (if lo < mx lo b then [(lo, mx lo b)] else []) = [] from if_neg c1, show (if mn hi e < hi then [(mn hi e, hi)] else []) = [] from if_neg c2, List.append_nil, List.append_nil]; exact (pr.mono (fun _ h => (.tail _ h)))
      · exact List.forall_mem_cons.mpr ⟨⟨l9.2.1, l9.2.2.1⟩, ab⟩
  case done =>
    rintro u nx h tk ⟨fvs, rvs, cf, cr, nw, _, rfl, rfl, pf, pr, ab⟩ F2 N2
    have y1 : ∀ p ∈ nw ++ rest, p.1 ≠ fl := app_ne (fun p hp => Nat.ne_of_gt (ab p hp).1) (ne_of_allLt l1.2.2)
    have y2 : ∀ p ∈ nw ++ rest, p.1 ≠ rl' := app_ne (fun p hp => Nat.ne_of_gt (ab p hp).2) (ne_of_allLt l2.2.2.2)
    have y3 : ∀ p ∈ nw ++ rest, p.1 ≠ x := app_ne (fun p hp => Nat.ne_of_gt (Nat.lt_trans l1.1 (ab p hp).1)) h1
    have y4 : ∀ p ∈ nw ++ rest, p.1 ≠ dx := app_ne (fun p hp => Nat.ne_of_gt (Nat.lt_trans l1.2.1 (ab p hp).1)) h2
    clear F1 N1
    rw [hp.length, List.take_length] at pf pr
    k_steps
    rename Fr _ _ _ _ => F'
    rename News _ _ _ _ => N'
    refine hret _ _ _ _ F' (fun p hp => N' p ((cons_mem (.tail _ (.tail _ (.head _))) (cons_mem (.tail _ (.tail _ (.tail _ (.head _)))) (cons_mem (.head _) (cons_mem (.tail _ (.head _)) (fun _ h9 => (.tail _ (.tail _ (.tail _ (.tail _ h9))))))))) p hp)) ⟨fl, rl', fvs, rvs, cf, cr, (fl, listOf (List.toArray fvs) cf) :: (rl', listOf (List.toArray rvs) cr) :: nw, rfl, rfl, .head _, .tail _ (.head _), pf.mono (fun _ h => (.tail _ (.tail _ h))), pr.mono (fun _ h => (.tail _ (.tail _ h))), ?_⟩
    have a1 : ∀ q ∈ (x, (⟨.ref 123, some dx, .plain, sl⟩ : Obj)) :: (dx, dictOf [⟨g1, .str (Str.ofString "most") k1, .int most t3⟩, ⟨g2, .str (Str.ofString "rows") k2, .ref rl⟩] 2) :: rest, @LT.lt Nat _ q.1 fl := List.forall_mem_cons.mpr ⟨l1.1, List.forall_mem_cons.mpr ⟨l1.2.1, allLt_mem l1.2.2⟩⟩
    exact List.forall_mem_cons.mpr ⟨a1, List.forall_mem_cons.mpr ⟨fun q hq => Nat.lt_trans (a1 q hq) l2.1, fun p hp q hq => Nat.lt_trans (a1 q hq) (ab p hp).1⟩⟩
end
local macro_rules | `(tactic| k_all) => `(tactic| assumption)
local macro_rules | `(tactic| k_mem) => `(tactic| (first | exact List.Mem.head _ | assumption | (refine' List.Mem.tail _ ?_; k_mem)))
local macro_rules | `(tactic| size_fits) => `(tactic| (simp only [List.size_toArray, Array.size_push, sizeLine_eq]; omega))
local macro_rules | `(tactic| walk_at "exec For Tuple Attribute cons nil") => `(tactic| (k_here; refine my_For ?_))
local macro_rules | `(tactic| walk_at "exec For Tuple Call cons nil") => `(tactic| (k_here; refine my_For ?_))
local macro_rules | `(tactic| walk_at "exec For Name Call cons nil") => `(tactic| (k_here; refine my_For ?_))
local macro_rules | `(tactic| k_room) => `(tactic| ktr_room)
local macro_rules | `(tactic| units_room) => `(tactic| ktr_units)
local macro_rules | `(tactic| k_units) => `(tactic| ktr_units)
local macro_rules | `(tactic| walk_at "subscriptTail") => `(tactic| (k_here; (with_reducible show wpAny _ _ (subscriptTail _ _ (Value.ref _) (Value.str _ _)) _ _ _); k_dflt (refine kda_item (by k_asm) (by k_mem) (by assumption) (strKind_is _ _ _ _) (by rfl) ?_)))
local macro_rules | `(tactic| walk_at "call ref") => `(tactic| (k_here; (fail_if_success (first | (with_reducible show wpAny _ _ (call (Value.ref 123) _) _ _ _) | (with_reducible show wpAny _ _ (call (Value.ref 260) _) _ _ _) | (with_reducible show wpAny _ _ (call (Value.ref 271) _) _ _ _))); refine hold ?_))
local macro_rules | `(tactic| ktr_room) => `(tactic| first | exact room2 (by assumption) (by decide) | exact room1 (by assumption) (by decide) | exact room0 (by assumption))
local macro_rules | `(tactic| ktr_units) => `(tactic| first | exact room2 (by assumption) (by decide) | exact room1 (by assumption) (by decide) | exact room0 (by assumption))
local macro_rules | `(tactic| k_ne) => `(tactic| (refine neN ?_; (try dsimp only); first | assumption | exact Ne.symm (by assumption) | exact Nat.ne_of_lt (by assumption) | exact Nat.ne_of_gt (by assumption)))
/-! part: Built -/
section
section
variable {prog : Program} {w : World} {A : Around} {E : Value → Shared → Prop} {s : Shared} {Q : Value → Shared → Prop} {l b : Addr} {vs : List Value}
theorem ne_nil_list (hl : s.heap.IsList l vs.toArray) (hb : s.heap.IsList b #[]) (hu : A.units < cLine) (h : Q (.bool (!vs.isEmpty)) s) :
    wpAny (model prog w) A (compareOp .NotEq (.ref l) (.ref b)) Q E s := by
  obtain ⟨⟨cls, dd, data, sl⟩, ho, hc, n, hd⟩ := id hl
  obtain ⟨⟨cls2, dd2, data2, sl2⟩, ho2, hc2, n2, hd2⟩ := id hb
  simp only at hc hd hc2 hd2
  subst hc hd hc2 hd2
  show wpAny (model prog w) A (richCompare .NotEq (.ref l) (.ref b)) Q E s
  cases vs with
  | nil =>
    exact richCompare_meets_room (op := .NotEq) ⟨_, ho, rfl⟩ ⟨_, ho2, rfl⟩ F.slot_list_ne F.entry_list_ne (F.args_list_ne_2 _ _) (SeqAt.list_neAt l b _ _ n n2 dd dd2 sl sl2 rfl (fun _ => true))
      ⟨ho, ho2, (fun j h1 h2 => absurd h2 (Nat.not_lt_zero _)), ⟨(fun x => nomatch x), h⟩⟩ hu
  | cons v vs =>
    exact richCompare_meets_room (op := .NotEq) ⟨_, ho, rfl⟩ ⟨_, ho2, rfl⟩ F.slot_list_ne F.entry_list_ne (F.args_list_ne_2 _ _) (SeqAt.list_ne_lengthsAt l b _ _ n n2 dd dd2 sl sl2 (by simp))
      ⟨ho, ho2, ⟨(fun x => nomatch x), h⟩⟩ hu
theorem eq_nil_list (hl : s.heap.IsList l vs.toArray) (hb : s.heap.IsList b #[]) (hu : A.units < cLine) (h : Q (.bool vs.isEmpty) s) :
    wpAny (model prog w) A (compareOp .Eq (.ref l) (.ref b)) Q E s := by
  cases vs with
  | nil => exact SeqAt.eq_listAt (e := fun _ => true) hl hb rfl hu (fun j h1 h2 => absurd h2 (Nat.not_lt_zero _)) h
  | cons v vs => exact SeqAt.eq_list_lengthsAt hl hb (by simp) hu h
theorem item_last {value slice : PySem.Expr} {iv : List Value} {v : Value} {u : Tok} (hl : s.heap.IsList l (iv ++ [v]).toArray) (h : Q v s)
    (hs : subscripted slice false (.ref l) (.int (-1) u) = operate [.ref l, .int (-1) u] (getItem (.ref l) (.int (-1) u)) := by with_unfolding_all rfl) :
    wpAny (model prog w) A (subscriptTail value slice (.ref l) (.int (-1) u)) Q E s :=
  tail_any hl.typeIs slot_list_getitem.lookup (wpAny_getItem_list_neg hl (by decide) (by simp; omega) (by decide) (by simp; show (iv ++ [v])[((-1 : Int) + ((iv.length : Int) + 1)).toNat]? = some v; rw [show ((-1 : Int) + ((iv.length : Int) + 1)).toNat = iv.length by omega]; simp) h) hs
end
end
/-! part: NewH -/
section
/-- the dict of a header that was made of ten values -/
inductive HdrO (o : Obj) (v1 v2 v3 v4 v5 v6 v7 v8 v9 v0 : Value) : Prop
  | mk (g1 g2 g3 g4 g5 g6 g7 g8 g9 g0 : Int) (k1 k2 k3 k4 k5 k6 k7 k8 k9 k0 : Tok)
    (h : o = dictOf [⟨g1, .str (Str.ofString "source") k1, v1⟩, ⟨g2, .str (Str.ofString "target") k2, v2⟩, ⟨g3, .str (Str.ofString "protocol") k3, v3⟩, ⟨g4, .str (Str.ofString "ident") k4, v4⟩,
      ⟨g5, .str (Str.ofString "ttl") k5, v5⟩, ⟨g6, .str (Str.ofString "tos") k6, v6⟩, ⟨g7, .str (Str.ofString "dont") k7, v7⟩, ⟨g8, .str (Str.ofString "more") k8, v8⟩, ⟨g9, .str (Str.ofString "offset") k9, v9⟩,
      ⟨g0, .str (Str.ofString "options") k0, v0⟩] 10)
inductive NewHPost (v1 v2 v3 v4 v5 v6 v7 v8 v9 v0 : Value) (led : List (Addr × Obj)) (r : Value) (nx : List (Addr × Obj)) : Prop
  | mk (H D : Addr) (oh : Obj) (e : r = .ref H) (e2 : nx = (H, instObj 74 D) :: (D, oh) :: led) (h1 : HdrO oh v1 v2 v3 v4 v5 v6 v7 v8 v9 v0) (h2 : @LT.lt Nat _ D H) (h3 : ∀ p ∈ led, @LT.lt Nat _ p.1 D)
theorem HdrO.is {o : Obj} {v1 v2 v3 v4 v5 v6 v7 v0 : Value} {more : Bool} {off : Int} {t : Tok} (h : HdrO o v1 v2 v3 v4 v5 v6 v7 (.bool more) (.int off t) v0) : IsHdr o more off := by
  obtain ⟨g1, g2, g3, g4, g5, g6, g7, g8, g9, g0, k1, k2, k3, k4, k5, k6, k7, k8, k9, k0, e⟩ := h
  exact ⟨_, _, _, _, _, _, _, _, _, _, _, _, _, _, _, _, _, _, _, _, _, _, _, _, _, _, _, _, _, e⟩
theorem newh_ctr {w : World} {mean : ExcName → Option Value} {mg mb : PySem.Str → Option Value} {led : List (Addr × Obj)} {v1 v2 v3 v4 v5 v6 v7 v8 v9 v0 : Value} :
   Ctr w mean mg mb 74 [v1, v2, v3, v4, v5, v6, v7, v8, v9, v0] led 3 24
     (NewHPost v1 v2 v3 v4 v5 v6 v7 v8 v9 v0 led) := by
  unfold Ctr
  k_fill
  intro dp un gd cn cs ca ccd cl outer A₀ base h₀ L m s Q E B F X N T hk hd hu hret
  k_dflt (refine' call_cls ?k1 ?k2 ?k3 ?k4 ?k5 ?k6 ?_; (case k1 => k_asm); (case k2 => k_asm); (case k3 => k_asm); (case k4 => k_is); (case k5 => k_is); (case k6 => k_is); k_whole; intro x' d' h' F' N' l1 l2; (try k_lt l1); (try k_lt2 l2); (try k_sweep); (refine' code_def ?k1 ?k2 ?k3 ?k4 ?k5 ?kA ?kF ?kK ?k6 ?k7 ?k8 ?k9 ?kB ?_ ?c2 ?c3 ?c4 ?c5; (case kA => exact rfl); (case kF => exact rfl); (case kK => assumption); (case k1 => k_asm); (case k2 => k_asm); (case k3 => k_asm); (case k4 => k_asm); (case k5 => k_asm); (case k6 => k_is); (case k7 => k_is); (case k8 => ktr_room); (case k9 => first | exact BindsTo.of_eq rfl | exact binds_K (by k_in) rfl (by k_is) rfl rfl rfl); (case c5 => decide); (case kB => exact locs rfl); (case c2 => exact rfl); (case c3 => exact rfl); (case c4 => exact rfl); k_whole; intro g' L' h' FG' F' N' B' X' T'; (try dsimp only); (try k_lift B'); (try k_fold)))
  k_steps
  rename Fr h₀ L _ m => F'
  rename News h₀ L _ (_ :: _ :: led) => N'
  rename (∀ p ∈ led, @LT.lt Nat _ p.1 _) => l1
  exact hret _ _ _ _ F' N' ⟨_, _, _, rfl, rfl, ⟨_, _, _, _, _, _, _, _, _, _, _, _, _, _, _, _, _, _, _, _, rfl⟩, by assumption, l1⟩
end
/-! part: NewD -/
section
/-- what Datagram(.., 64) leaves -/
inductive NewDPost (led : List (Addr × Obj)) (r : Value) (nx : List (Addr × Obj)) : Prop
  | mk (x dx y dy pl rl Dt : Addr) (od oy : Obj) (u1 u2 : Tok) (e : r = .ref x)
    (e2 : nx = (x, instObj 177 dx) :: (dx, od) :: (y, instObj 123 dy) :: (dy, oy) :: (pl, listOf #[] 0) :: (rl, listOf #[.ref Dt] 0) :: (Dt, tupO [.int 0 u1, .int 64 u2]) :: led)
    (h1 : IsDgram od y pl .none 0 .none 0) (h2 : IsHoles oy 64 rl) (a1 : @LT.lt Nat _ dx x) (a2 : @LT.lt Nat _ x dy) (a3 : @LT.lt Nat _ dy y) (a4 : @LT.lt Nat _ y Dt) (a5 : @LT.lt Nat _ Dt rl) (a6 : @LT.lt Nat _ rl pl)
    (h3 : ∀ p ∈ led, @LT.lt Nat _ p.1 dx)
theorem new_perm {a b c d e f g : Addr × Obj} {r : List (Addr × Obj)} : ∀ p ∈ f :: g :: d :: e :: a :: b :: c :: r, p ∈ a :: b :: c :: d :: e :: f :: g :: r :=
  (cons_mem (.tail _ (.tail _ (.tail _ (.tail _ (.tail _ (.head _)))))) (cons_mem (.tail _ (.tail _ (.tail _ (.tail _ (.tail _ (.tail _ (.head _))))))) (cons_mem (.tail _ (.tail _ (.tail _ (.head _)))) (cons_mem (.tail _ (.tail _ (.tail _ (.tail _ (.head _))))) (cons_mem (.head _) (cons_mem (.tail _ (.head _)) (cons_mem (.tail _ (.tail _ (.head _))) (fun _ h9 => (.tail _ (.tail _ (.tail _ (.tail _ (.tail _ (.tail _ (.tail _ h9)))))))))))))))
theorem newd_ctr {w : World} {mean : ExcName → Option Value} {mg mb : PySem.Str → Option Value} {led : List (Addr × Obj)} {v : Value} {t : Tok} :
   Ctr w mean mg mb 177 [v, .int 64 t] led 6 48 (NewDPost led) := by
  unfold Ctr
  k_fill
  intro dp un gd cn cs ca ccd cl outer A₀ base h₀ L m s Q E B F X N T hk hd hu hret
  k_dflt (refine' call_cls ?k1 ?k2 ?k3 ?k4 ?k5 ?k6 ?_; (case k1 => k_asm); (case k2 => k_asm); (case k3 => k_asm); (case k4 => k_is); (case k5 => k_is); (case k6 => k_is); k_whole; intro x' d' h' F' N' l1 l2; (try k_lt l1); (try k_lt2 l2); (try k_sweep); (refine' code_def ?k1 ?k2 ?k3 ?k4 ?k5 ?kA ?kF ?kK ?k6 ?k7 ?k8 ?k9 ?kB ?_ ?c2 ?c3 ?c4 ?c5; (case kA => exact rfl); (case kF => exact rfl); (case kK => assumption); (case k1 => k_asm); (case k2 => k_asm); (case k3 => k_asm); (case k4 => k_asm); (case k5 => k_asm); (case k6 => k_is); (case k7 => k_is); (case k8 => ktr_room); (case k9 => first | exact BindsTo.of_eq rfl | exact binds_K (by k_in) rfl (by k_is) rfl rfl rfl); (case c5 => decide); (case kB => exact locs rfl); (case c2 => exact rfl); (case c3 => exact rfl); (case c4 => exact rfl); k_whole; intro g' L' h' FG' F' N' B' X' T'; (try dsimp only); (try k_lift B'); (try k_fold)))
  k_steps
  rename Fr h₀ L _ m => F3
  rename News h₀ L _ (_ :: _ :: _ :: _ :: _ :: _ :: _ :: led) => N3
  rename (_ ∧ _ ∧ AllLt _ led) => c1
  rename (_ ∧ _ ∧ _ ∧ _ ∧ AllLt _ led) => c2
  rename (_ ∧ _ ∧ _ ∧ _ ∧ _ ∧ AllLt _ led) => c3
  rename (_ ∧ _ ∧ _ ∧ _ ∧ _ ∧ _ ∧ AllLt _ led) => c4
  rename (@LT.lt Nat _ _ _) => c5
  exact hret _ _ _ _ F3 (News.sub N3 new_perm) ⟨_, _, _, _, _, _, _, _, _, _, _, rfl, rfl, ⟨_, _, _, _, _, _, _, _, _, _, _, _, _, _, _, _, _, _, _, _, rfl⟩, ⟨_, _, _, _, _, rfl⟩, l2, c1.1, c5, c2.1, c3.1, c4.1, l1⟩
end
/-! part: Reach -/
section
local macro_rules | `(tactic| walk_at "compareOp NotEq ref ref") => `(tactic| (k_here; refine ne_nil_list (News.isList (by k_asm) (by k_mem)) (News.isList (by k_asm) (by k_mem)) (by ktr_units) ?_))
local macro_rules | `(tactic| walk_at "compareOp Eq ref ref") => `(tactic| (k_here; refine eq_nil_list (News.isList (by k_asm) (by k_mem)) (News.isList (by k_asm) (by k_mem)) (by ktr_units) ?_))
local macro_rules | `(tactic| walk_at "subscriptTail") => `(tactic| (k_here; (with_reducible show wpAny _ _ (subscriptTail _ _ (Value.ref _) (Value.int (-1) _)) _ _ _); with_unfolding_all refine item_last (News.isList (by k_asm) (by k_mem)) ?_ (by with_unfolding_all rfl)))
def reachF (most : Int) (rows : List (Int × Int)) : Int := match rows.getLast? with | some r => if r.2 = most then r.1 else most | none => most
theorem PairsIn.last {led : List (Addr × Obj)} {vs : List Value} {ps : List (Int × Int)} (h : PairsIn led vs ps) : (vs = [] ∧ ps = []) ∨ ∃ iv a ip lo hi t u, vs = iv ++ [.ref a] ∧ ps = ip ++ [(lo, hi)] ∧ (a, tupO [.int lo t, .int hi u]) ∈ led := by
  induction h with
  | nil => exact .inl ⟨rfl, rfl⟩
  | @cons a t u x y vs ps hm _ ih =>
    rcases ih with ⟨rfl, rfl⟩ | ⟨iv, a', ip, lo, hi, t', u', rfl, rfl, hm'⟩
    · exact .inr ⟨[], a, [], x, y, t, u, rfl, rfl, hm⟩
    · exact .inr ⟨.ref a :: iv, a', (x, y) :: ip, lo, hi, t', u', rfl, rfl, hm'⟩
theorem reach_ctr {w : World} {mean : ExcName → Option Value} {mg mb : PySem.Str → Option Value} {y dy rl : Addr} {oy : Obj} {most : Int} {nr : Nat} {led led' : List (Addr × Obj)}
   {rowVals : List Value} {rows : List (Int × Int)} (hy : (y, instObj 123 dy) ∈ led) (hdy : (dy, oy) ∈ led) (hoy : IsHoles oy most rl) (hl : (rl, listOf rowVals.toArray nr) ∈ led) (hp : PairsIn led' rowVals rows) (hs : ∀ p ∈ led', p ∈ led) :
   Ctr w mean mg mb 113 [.ref y] led 2 16 (fun r nx => nx = led ∧ ∃ t, r = .int (reachF most rows) t) := by
  obtain ⟨g1, g2, k1, k2, t3, rfl⟩ := hoy
  replace hp := hp.mono hs
  unfold Ctr
  k_fill
  intro dp un gd cn cs ca ccd cl outer A₀ base h₀ L m s Q E B F X N T hk hd hu hret
  rcases hp.last with ⟨rfl, rfl⟩ | ⟨iv, a, ip, lo, hi, t, u, rfl, rfl, hm⟩
  · refine wpAny_call ?_
    k_dflt ktr_enter
    k_steps
    all_goals (rename News _ _ _ _ => N')
    exact hret _ _ _ _ (by assumption) (fun p hp => N' p (by first | exact .tail _ hp | exact hp)) ⟨rfl, _, rfl⟩
  · refine wpAny_call ?_
    k_dflt ktr_enter
    k_steps
    all_goals (rename News _ _ _ _ => N')
    all_goals refine hret _ _ _ _ (by assumption) (fun p hp => N' p (by first | exact .tail _ hp | exact hp)) ⟨rfl, _, congrArg (Value.int · _) ?_⟩
    all_goals (simp_all [reachF])
theorem whole_ctr {w : World} {mean : ExcName → Option Value} {mg mb : PySem.Str → Option Value} {y dy rl : Addr} {oy : Obj} {most : Int} {nr : Nat} {led led' : List (Addr × Obj)}
   {rowVals : List Value} (hy : (y, instObj 123 dy) ∈ led) (hdy : (dy, oy) ∈ led) (hoy : IsHoles oy most rl) (hl : (rl, listOf rowVals.toArray nr) ∈ led) :
   Ctr w mean mg mb 120 [.ref y] led 2 16 (fun r nx => nx = led ∧ r = .bool rowVals.isEmpty) := by
  obtain ⟨g1, g2, k1, k2, t3, rfl⟩ := hoy
  unfold Ctr
  k_fill
  intro dp un gd cn cs ca ccd cl outer A₀ base h₀ L m s Q E B F X N T hk hd hu hret
  refine wpAny_call ?_
  k_dflt ktr_enter
  k_steps
  all_goals (rename News _ _ _ _ => N')
  exact hret _ _ _ _ (by assumption) (fun p hp => N' p (by first | exact .tail _ hp | exact hp)) ⟨rfl, rfl⟩
end
/-! part: Against -/
section
def againstF (rows : List (Int × Int)) (fin : Option Int) (ahead e : Int) (more : Bool) : Bool :=
  if e > 64 then true else if more then (match fin with | none => false | some f => decide (e ≥ f)) else match fin with | some f => !decide (e = f) | none => decide (reachF 64 rows > e) || (decide (ahead ≥ e) && decide (e > 0))
theorem against_ctr {w : World} {mean : ExcName → Option Value} {mg mb : PySem.Str → Option Value} {x dx y dy rl pl : Addr} {od oy : Obj} {nr : Nat} {led led' : List (Addr × Obj)} {endv fv bv : Value} {fin : Option Int} {ahead size e : Int} {te : Tok} {more : Bool}
   {rowVals : List Value} {rows : List (Int × Int)} (hx : (x, instObj 177 dx) ∈ led) (hdx : (dx, od) ∈ led) (hod : IsDgram od y pl endv ahead fv size) (hf : IsOpt endv fin) (hy : (y, instObj 123 dy) ∈ led) (hdy : (dy, oy) ∈ led) (hoy : IsHoles oy 64 rl) (hl : (rl, listOf rowVals.toArray nr) ∈ led) (hp : PairsIn led' rowVals rows) (hs : ∀ p ∈ led', p ∈ led) :
   Ctr w mean mg mb 148 [.ref x, bv, .int e te, .bool more] led 4 32 (fun r nx => nx = led ∧ r = .bool (againstF rows fin ahead e more)) := by
  obtain ⟨g1, g2, g3, g4, g5, g6, g7, g8, k1, k2, k3, k4, k5, k6, k7, k8, bv, t2, t6, t8, rfl⟩ := hod
  obtain ⟨q1, q2, q3, q4, q5, rfl⟩ := hoy
  replace hp := hp.mono hs
  unfold Ctr
  k_fill
  intro dp un gd cn cs ca ccd cl outer A₀ base h₀ L m s Q E B F X N T hk hd hu hret
  cases fin with
  | none =>
    obtain rfl : endv = .none := hf
    cases more
    all_goals (refine wpAny_call ?_; k_dflt ktr_enter; k_steps)
    rotate_left 1

    unfold Hold
    refine Ctr.use (by k_asm) (by k_asm) (reach_ctr (by k_mem) (by k_mem) ⟨_, _, _, _, _, rfl⟩ (by k_mem) (by assumption) (by repeat (first | exact sub_refl | refine sub_tail ?_))) sub_refl (by k_asm) (by k_asm) (by k_asm) (by first | assumption | exact rfl) (by ktr_room) (by ktr_units) ?_
    intro r9 h9 tk9 nx9 F9 N9 p9
    obtain ⟨e9, t9, e8⟩ := p9
    subst e9
    subst e8
    dsimp only
    k_steps
    all_goals (rename News _ _ _ _ => N')
    all_goals refine hret _ _ _ _ (by assumption) N' ⟨rfl, congrArg Value.bool ?_⟩
    all_goals clear F N B X T hret hk hd hu
    all_goals unfold againstF
    all_goals split
    all_goals (first | rfl | (exfalso; omega) | (rw [Bool.eq_iff_iff]; simp only [Bool.false_eq_true, if_false, if_true, Bool.or_eq_true, Bool.and_eq_true, decide_eq_true_eq, bne_iff_ne, ne_eq, Bool.not_eq_true', decide_eq_false_iff_not, gt_iff_lt, ge_iff_le]; first | done | omega))
  | some f =>
    obtain ⟨tf, rfl⟩ : ∃ t, endv = .int f t := hf
    cases more
    all_goals (refine wpAny_call ?_; k_dflt ktr_enter; k_steps)
    all_goals (rename News _ _ _ _ => N')
    all_goals refine hret _ _ _ _ (by assumption) N' ⟨rfl, congrArg Value.bool ?_⟩
    all_goals clear F N B X T hret hk hd hu
    all_goals unfold againstF
    all_goals split
    all_goals (first | rfl | (exfalso; omega) | (rw [Bool.eq_iff_iff]; simp only [Bool.false_eq_true, if_false, if_true, Bool.or_eq_true, Bool.and_eq_true, decide_eq_true_eq, bne_iff_ne, ne_eq, Bool.not_eq_true', decide_eq_false_iff_not, gt_iff_lt, ge_iff_le]; first | done | omega))
end
/-! part: EndAt -/
section
inductive EndPost (y dy rl : Addr) (e most : Int) (t3 k1 k2 : Tok) (g1 g2 : Int) (rest : List (Addr × Obj)) (rows : List (Int × Int)) (r : Value) (nx : List (Addr × Obj)) : Prop
  | mk (rl' : Addr) (rvs : List Value) (cr : Nat) (nw : List (Addr × Obj)) (e1 : r = .none) (e2 : nx = (y, instObj 123 dy) :: (dy, dictOf [⟨g1, .str (Str.ofString "most") k1, .int most t3⟩, ⟨g2, .str (Str.ofString "rows") k2, .ref rl'⟩] 2) :: (nw ++ rest))
      (h2 : (rl', listOf rvs.toArray cr) ∈ nw) (h4 : PairsIn nw rvs (rows.flatMap (restOf e most)))
      (h5 : Above ((y, instObj 123 dy) :: (dy, dictOf [⟨g1, .str (Str.ofString "most") k1, .int most t3⟩, ⟨g2, .str (Str.ofString "rows") k2, .ref rl⟩] 2) :: rest) nw)
theorem end_ctr {w : World} {mean : ExcName → Option Value} {mg mb : PySem.Str → Option Value} {y dy rl : Addr} {e most : Int} {t2 t3 k1 k2 : Tok} {g1 g2 : Int} {nr : Nat} {rest : List (Addr × Obj)}
   {rowVals : List Value} {rows : List (Int × Int)}
   (hx : @Ne Nat y dy) (h1 : ∀ p ∈ rest, p.1 ≠ y) (h2 : ∀ p ∈ rest, p.1 ≠ dy) (hl : (rl, listOf rowVals.toArray nr) ∈ rest) (hp : PairsIn rest rowVals rows) (hn : rows.length < 1000) :
   Ctr w mean mg mb 106 [.ref y, .int e t2] ((y, instObj 123 dy) :: (dy, dictOf [⟨g1, .str (Str.ofString "most") k1, .int most t3⟩, ⟨g2, .str (Str.ofString "rows") k2, .ref rl⟩] 2) :: rest) 4 32
     (EndPost y dy rl e most t3 k1 k2 g1 g2 rest rows) := by
  unfold Ctr
  k_fill
  intro dp un gd cn cs ca ccd cl outer A₀ base h₀ L m s Q E B F X N T hk hd hu hret
  refine wpAny_call ?_
  k_dflt ktr_enter
  k_steps
  unfold Hold
  refine Ctr.use (by k_asm) (by k_asm) (fill_ctr hx h1 h2 hl hp hn) sub_refl (by k_asm) (by k_asm) (by k_asm) (by first | assumption | exact rfl) (by ktr_room) (by ktr_units) ?_
  rintro r8 h8 tk8 nx8 F8 N8 ⟨fl, rl', fvs, rvs, cf, cr, nw, rfl, rfl, hfl, hrl, pf, pr, hab⟩
  dsimp only
  k_steps
  rename News h₀ L _ _ => N'
  rename Fr h₀ L _ m => F'
  exact hret _ _ _ _ F' N' ⟨rl', rvs, cr, nw, rfl, rfl, hrl, pr, hab⟩
end
/-! part: Put -/
section
inductive PartsIn (led : List (Addr × Obj)) : List Value → List (Int × List Int) → Prop where
  | nil : PartsIn led [] []
  | cons {a : Addr} {t u : Tok} {x : Int} {arr : Array UInt8} {ks : List Int} {vs : List Value} {ps : List (Int × List Int)} : (a, tupO [.int x t, .bytes arr u]) ∈ led → KBw.bInts arr = ks → PartsIn led vs ps → PartsIn led (.ref a :: vs) ((x, ks) :: ps)
section
variable {led led' : List (Addr × Obj)} {vs ws : List Value} {ps qs : List (Int × List Int)}
theorem PartsIn.mono (hs : ∀ p ∈ led, p ∈ led') (h : PartsIn led vs ps) : PartsIn led' vs ps := by
  induction h with
  | nil => exact .nil
  | cons hm e _ ih => exact .cons (hs _ hm) e ih
theorem PartsIn.append (h : PartsIn led vs ps) (k : PartsIn led ws qs) : PartsIn led (vs ++ ws) (ps ++ qs) := by
  induction h with
  | nil => exact k
  | cons hm e _ ih => exact .cons hm e ih
theorem PartsIn.length (h : PartsIn led vs ps) : vs.length = ps.length := by
  induction h with
  | nil => rfl
  | cons _ _ _ ih => simp [ih]
end
theorem perm_bef (a b c d e : Addr × Obj) (r : List (Addr × Obj)) : ∀ p ∈ c :: d :: a :: b :: e :: r, p ∈ a :: b :: c :: d :: e :: r :=
  (cons_mem (.tail _ (.tail _ (.head _))) (cons_mem (.tail _ (.tail _ (.tail _ (.head _)))) (cons_mem (.head _) (cons_mem (.tail _ (.head _)) (cons_mem (.tail _ (.tail _ (.tail _ (.tail _ (.head _))))) (fun _ h9 => (.tail _ (.tail _ (.tail _ (.tail _ (.tail _ h9)))))))))))
theorem perm_fro (a b c d e : Addr × Obj) (r : List (Addr × Obj)) : ∀ p ∈ a :: b :: c :: d :: e :: r, p ∈ c :: d :: a :: b :: e :: r :=
  (cons_mem (.tail _ (.tail _ (.head _))) (cons_mem (.tail _ (.tail _ (.tail _ (.head _)))) (cons_mem (.head _) (cons_mem (.tail _ (.head _)) (cons_mem (.tail _ (.tail _ (.tail _ (.tail _ (.head _))))) (fun _ h9 => (.tail _ (.tail _ (.tail _ (.tail _ (.tail _ h9)))))))))))
theorem perm_aft (a b c d e : Addr × Obj) (nw r : List (Addr × Obj)) : ∀ p ∈ a :: b :: c :: d :: e :: (nw ++ r), p ∈ c :: d :: (nw ++ (a :: b :: e :: r)) :=
  (cons_mem (.tail _ (.tail _ (List.mem_append_right _ (.head _)))) (cons_mem (.tail _ (.tail _ (List.mem_append_right _ (.tail _ (.head _))))) (cons_mem (.head _) (cons_mem (.tail _ (.head _)) (cons_mem (.tail _ (.tail _ (List.mem_append_right _ (.tail _ (.tail _ (.head _)))))) (fun p hp => (List.mem_append.mp hp).elim (fun h => .tail _ (.tail _ (List.mem_append_left _ h))) fun h => .tail _ (.tail _ (List.mem_append_right _ (.tail _ (.tail _ (.tail _ h)))))))))))
def sumLen (rs : List (Int × Int)) : Int := (rs.map fun r => r.2 - r.1).sum
def cutOf (b : Int) (pay : List Int) (r : Int × Int) : Int × List Int := (r.1, (pay.drop (clipAt pay.length (r.1 - b))).take (clipAt pay.length (r.2 - b) - clipAt pay.length (r.1 - b)))

local macro_rules | `(tactic| walk_at "exec If") => `(tactic| (k_here; (have mark9 : Mark := by assumption); clear mark9; refine hold ?_))
theorem unhold {P : Prop} (h : P) : Hold P := h
structure DS where
  rows : List (Int × Int)
  parts : List (Int × List Int)
  fin : Option Int
  fst : Option Addr
  ahead : Int
  size : Int
def putF (d : DS) (hx : Addr) (more : Bool) (b : Int) (pay : List Int) : DS where
  rows := if more then d.rows.flatMap (restOf b (b + (pay.length : Int))) else match d.fin with
    | none => (d.rows.flatMap (restOf b (b + (pay.length : Int)))).flatMap (restOf (b + (pay.length : Int)) 64)
    | some _ => d.rows.flatMap (restOf b (b + (pay.length : Int)))
  parts := d.parts ++ (d.rows.flatMap (foundOf b (b + (pay.length : Int)))).map (cutOf b pay)
  fin := if more then d.fin else match d.fin with | none => some (b + (pay.length : Int)) | some f => some f
  fst := match d.fst with | none => if b = 0 then some hx else none | some f => some f
  ahead := if more then mx d.ahead (b + (pay.length : Int)) else d.ahead
  size := d.size + sumLen (d.rows.flatMap (foundOf b (b + (pay.length : Int))))
/-- the objects of a datagram say d -/
inductive DgIs (d : DS) (od oy : Obj) (y pl : Addr) (pvs : List Value) (rest : List (Addr × Obj)) : Prop
  | mk (endv fv : Value) (rl : Addr) (rowVals : List Value) (nr : Nat) (a1 : IsDgram od y pl endv d.ahead fv d.size) (a2 : IsOpt endv d.fin) (a3 : IsRefOpt fv d.fst) (a4 : IsHoles oy 64 rl) (a5 : (rl, listOf (List.toArray rowVals) nr) ∈ rest) (a6 : PairsIn rest rowVals d.rows) (a7 : PartsIn rest pvs d.parts)
/-- what a put makes of them: the new pieces and the new holes lie in what it made -/
inductive DgN (d : DS) (od oy : Obj) (y pl : Addr) (pvs pvs' : List Value) (nw : List (Addr × Obj)) (np : List (Int × List Int)) : Prop
  | mk (endv fv : Value) (rl : Addr) (rowVals : List Value) (nr : Nat) (pv : List Value) (a1 : IsDgram od y pl endv d.ahead fv d.size) (a2 : IsOpt endv d.fin) (a3 : IsRefOpt fv d.fst) (a4 : IsHoles oy 64 rl) (a5 : (rl, listOf (List.toArray rowVals) nr) ∈ nw) (a6 : PairsIn nw rowVals d.rows) (a7 : pvs' = pvs ++ pv) (a8 : PartsIn nw pv np)
theorem DgN.is {d : DS} {od oy : Obj} {y pl : Addr} {pvs pvs' : List Value} {nw rest : List (Addr × Obj)} {np parts : List (Int × List Int)} (h : DgN d od oy y pl pvs pvs' nw np) (hp : PartsIn rest pvs parts) (e : d.parts = parts ++ np) : DgIs d od oy y pl pvs' (nw ++ rest) := by
  obtain ⟨endv, fv, rl, rowVals, nr, pv, a1, a2, a3, a4, a5, a6, rfl, a8⟩ := h
  refine ⟨endv, fv, rl, rowVals, nr, a1, a2, a3, a4, List.mem_append_left _ a5, a6.mono fun p h => List.mem_append_left _ h, ?_⟩
  rw [e]
  exact (hp.mono fun p h => List.mem_append_right _ h).append (a8.mono fun p h => List.mem_append_left _ h)
theorem DgIs.mono {d : DS} {od oy : Obj} {y pl : Addr} {pvs : List Value} {r r' : List (Addr × Obj)} (h : DgIs d od oy y pl pvs r) (hs : ∀ p ∈ r, p ∈ r') : DgIs d od oy y pl pvs r' := by
  obtain ⟨endv, fv, rl, rowVals, nr, a1, a2, a3, a4, a5, a6, a8⟩ := h
  exact ⟨endv, fv, rl, rowVals, nr, a1, a2, a3, a4, hs _ a5, a6.mono hs, a8.mono hs⟩
inductive PutYes (d : DS) (hx : Addr) (more : Bool) (b : Int) (pay : List Int) (x dx y dy pl : Addr) (pvs : List Value) (old rest : List (Addr × Obj)) (r : Value) (nx : List (Addr × Obj)) : Prop
  | mk (a0 : againstF d.rows d.fin d.ahead (b + (pay.length : Int)) more = false) (d' : DS) (od' oy' : Obj) (pvs' : List Value) (np' : Nat) (nw : List (Addr × Obj)) (a1 : d' = putF d hx more b pay) (a2 : r = .bool true)
     (a3 : nx = (x, instObj 177 dx) :: (dx, od') :: (y, instObj 123 dy) :: (dy, oy') :: (pl, listOf (List.toArray pvs') np') :: (nw ++ rest))
     (a4 : DgN d' od' oy' y pl pvs pvs' nw ((d.rows.flatMap (foundOf b (b + (pay.length : Int)))).map (cutOf b pay))) (a5 : Above old nw)
def PutPost (d : DS) (hx : Addr) (more : Bool) (b : Int) (pay : List Int) (x dx y dy pl : Addr) (pvs : List Value) (old rest : List (Addr × Obj)) (r : Value) (nx : List (Addr × Obj)) : Prop :=
  (againstF d.rows d.fin d.ahead (b + (pay.length : Int)) more = true ∧ r = .bool false ∧ nx = old) ∨ PutYes d hx more b pay x dx y dy pl pvs old rest r nx
theorem putF_yes {rows : List (Int × Int)} {parts : List (Int × List Int)} {fin : Option Int} {ahead size b : Int} {hx : Addr} {more : Bool} {pay : List Int} (h : b = 0) : IsRefOpt (.ref hx) (putF ⟨rows, parts, fin, none, ahead, size⟩ hx more b pay).fst := by
  show IsRefOpt _ (if b = 0 then some hx else none)
  rw [if_pos h]; rfl
theorem putF_no {rows : List (Int × Int)} {parts : List (Int × List Int)} {fin : Option Int} {ahead size b : Int} {hx : Addr} {more : Bool} {pay : List Int} (h : ¬ b = 0) : IsRefOpt .none (putF ⟨rows, parts, fin, none, ahead, size⟩ hx more b pay).fst := by
  show IsRefOpt _ (if b = 0 then some hx else none)
  rw [if_neg h]; rfl
theorem put_ctr {w : World} {mean : ExcName → Option Value} {mg mb : PySem.Str → Option Value} {x dx y dy pl hx hdx : Addr} {od oy oh : Obj} {np : Nat} {rest : List (Addr × Obj)} {rows : List (Int × Int)} {parts : List (Int × List Int)} {fin : Option Int} {fst : Option Addr} {ahead size b : Int} {more : Bool}
   {arr : Array UInt8} {pay : List Int} {ta : Tok} {pvs : List Value}
   (hd : DgIs ⟨rows, parts, fin, fst, ahead, size⟩ od oy y pl pvs rest) (hn : rows.length < 400) (hz : parts.length < 1000)
   (hh : (hx, instObj 74 hdx) ∈ rest) (hhd : (hdx, oh) ∈ rest) (hoh : IsHdr oh more b) (hb : KBw.bInts arr = pay) (hpl : pay.length < 1000)
   (s1 : @Ne Nat x dx) (s2 : @Ne Nat x y) (s3 : @Ne Nat x dy) (s4 : @Ne Nat x pl) (s5 : @Ne Nat dx y) (s6 : @Ne Nat dx dy) (s7 : @Ne Nat dx pl) (s8 : @Ne Nat y dy) (s9 : @Ne Nat y pl) (s0 : @Ne Nat dy pl)
   (r1 : ∀ p ∈ rest, p.1 ≠ x) (r2 : ∀ p ∈ rest, p.1 ≠ dx) (r3 : ∀ p ∈ rest, p.1 ≠ y) (r4 : ∀ p ∈ rest, p.1 ≠ dy) (r5 : ∀ p ∈ rest, p.1 ≠ pl) :
   Ctr w mean mg mb 155 [.ref x, .ref hx, .bytes arr ta] ((x, instObj 177 dx) :: (dx, od) :: (y, instObj 123 dy) :: (dy, oy) :: (pl, listOf (List.toArray pvs) np) :: rest) 8 64
     (PutPost ⟨rows, parts, fin, fst, ahead, size⟩ hx more b pay x dx y dy pl pvs ((x, instObj 177 dx) :: (dx, od) :: (y, instObj 123 dy) :: (dy, oy) :: (pl, listOf (List.toArray pvs) np) :: rest) rest) := by
  obtain ⟨endv, fv, rl, rowVals, nr, hod, hf, hfv, hoy, hl, hp, hpp⟩ := hd
  have hn4 : (rows.flatMap (restOf b (b + (pay.length : Int)))).length < 1000 := by
    have := flatMap_len _ 2 (restOf_len b (b + (pay.length : Int))) rows; omega
  replace hn : rows.length < 1000 := by omega
  replace hz : pvs.length < 1000 := by rw [hpp.length]; exact hz
  obtain ⟨g1, g2, g3, g4, g5, g6, g7, g8, k1, k2, k3, k4, k5, k6, k7, k8, bv, t2, t6, t8, rfl⟩ := hod
  obtain ⟨q1, q2, q3, q4, q5, rfl⟩ := hoy
  obtain ⟨e1, e2, e3, e4, e5, e6, e7, e8, e9, e0, f1, f2, f3, f4, f5, f6, f7, f8, f9, f0, v1, v2, v3, v4, v5, v6, v7, v0, vt9, rfl⟩ := hoh
  unfold Ctr
  k_fill
  intro dp un gd cn cs ca ccd cl outer A₀ base h₀ L m s Q E B F X N T hk hdp hu hret
  refine wpAny_call ?_
  k_dflt ktr_enter
  rename Fr _ _ _ _ => lF
  replace lF : Fr _ _ _ (fun y => List.lookup y [(Str.ofString "payload", Value.bytes arr ta), (Str.ofString "header", Value.ref hx), (Str.ofString "self", Value.ref x)]) := lF
  k_steps
  rename_i F1 N1
  obtain ⟨te, F2⟩ : ∃ te, Fr _ _ _ (fun y => if y = Str.ofString "end" then some (Value.int (b + (pay.length : Int)) te) else if y = Str.ofString "begin" then some (Value.int b vt9) else List.lookup y [(Str.ofString "payload", Value.bytes arr ta), (Str.ofString "header", Value.ref hx), (Str.ofString "self", Value.ref x)]) := ⟨_, F1⟩
  clear F1
  unfold Hold
  refine Ctr.use F2 N1 (against_ctr (fin := fin) (by k_mem) (by k_mem) ⟨_, _, _, _, _, _, _, _, _, _, _, _, _, _, _, _, _, _, _, _, rfl⟩ hf (by k_mem) (by k_mem) ⟨_, _, _, _, _, rfl⟩ (by k_mem) hp (by repeat (first | exact sub_refl | refine sub_tail ?_))) sub_refl (by k_asm) (by k_asm) (by k_asm) (by first | assumption | exact rfl) (by ktr_room) (by ktr_units) ?_
  rintro r9 h9 tk9 nx9 F9 N9 ⟨rfl, rfl⟩
  cases hag : againstF rows fin ahead (b + (pay.length : Int)) more with
  | true =>
    k_steps
    rename News h₀ L _ _ => N'
    rename Fr h₀ L _ m => F'
    exact hret _ _ _ _ F' N' (.inl ⟨hag, rfl, rfl⟩)
  | false =>
    k_steps
    unfold Hold
    refine Ctr.use F9 N9 (fill_ctr (rest := (x, _) :: (dx, _) :: (pl, _) :: rest) s8 (cons_ne s2 (cons_ne s5 (cons_ne s9.symm r3))) (cons_ne s3 (cons_ne s6 (cons_ne s0.symm r4))) (.tail _ (.tail _ (.tail _ hl))) (hp.mono fun _ h => .tail _ (.tail _ (.tail _ h))) hn) (perm_bef _ _ _ _ _ _) (by k_asm) (by k_asm) (by k_asm) (by first | assumption | exact rfl) (by ktr_room) (by ktr_units) ?_
    rintro r8 h8 tk8 nx8 F8 N8 ⟨fl, rl', fvs, rvs, cf, cr, nw, rfl, rfl, hfl, hrl, pf, pr, hab⟩
    replace N8 := News.sub N8 (perm_aft _ _ _ _ _ _ _)
    dsimp only
    have o1 : ∀ q ∈ rest, @LT.lt Nat _ q.1 fl := fun q hq => hab _ hfl q (.tail _ (.tail _ (.tail _ (.tail _ (.tail _ hq)))))
    have o2 : @LT.lt Nat _ x fl := hab _ hfl (x, _) (.tail _ (.tail _ (.head _)))
    have o3 : @LT.lt Nat _ dx fl := hab _ hfl (dx, _) (.tail _ (.tail _ (.tail _ (.head _))))
    have o4 : @LT.lt Nat _ y fl := hab _ hfl (y, _) (.head _)
    have o5 : @LT.lt Nat _ dy fl := hab _ hfl (dy, _) (.tail _ (.head _))
    have o6 : @LT.lt Nat _ pl fl := hab _ hfl (pl, _) (.tail _ (.tail _ (.tail _ (.tail _ (.head _)))))
    refine loop_listS (vs := fvs) (c := cf) [Str.ofString "low", Str.ofString "high"]
      (fun i nx => Ex5 fun pv np' t8' nw2 tl => An4 (tl = nw2 ++ (nw ++ rest)) (nx = (x, instObj 177 dx) :: (dx, dictOf [⟨g1, .str (Str.ofString "began") k1, bv⟩, ⟨g2, .str (Str.ofString "most") k2, .int 64 t2⟩, ⟨g3, .str (Str.ofString "holes") k3, .ref y⟩, ⟨g4, .str (Str.ofString "parts") k4, .ref pl⟩, ⟨g5, .str (Str.ofString "end") k5, endv⟩, ⟨g6, .str (Str.ofString "ahead") k6, .int ahead t6⟩, ⟨g7, .str (Str.ofString "first") k7, fv⟩, ⟨g8, .str (Str.ofString "size") k8, .int (size + sumLen (List.take i (rows.flatMap (foundOf b (b + (pay.length : Int)))))) t8'⟩] 8) :: (y, instObj 123 dy) :: (dy, dictOf [⟨q1, .str (Str.ofString "most") q3, .int 64 q5⟩, ⟨q2, .str (Str.ofString "rows") q4, .ref rl'⟩] 2) :: (pl, listOf (List.toArray (pvs ++ pv)) np') :: tl)
        (PartsIn nw2 pv ((List.take i (rows.flatMap (foundOf b (b + (pay.length : Int))))).map (cutOf b pay))) (∀ p ∈ nw2, @LT.lt Nat _ fl p.1))
      rfl (by passes_own) F8 N8 ?hl ?j0 (go_tuple pf.refs) ?turn ?done
    case hl =>
      rintro i nx ⟨pv, np', t8', nw2, tl, rfl, rfl, -⟩
      exact .tail _ (.tail _ (.tail _ (.tail _ (.tail _ (List.mem_append_right _ (List.mem_append_left _ hfl))))))
    case j0 =>
      exact ⟨_, sub_refl, [], np, t8, [], _, rfl, by rw [List.append_nil, List.take_zero, show size + sumLen [] = size from Int.add_zero _]; rfl, .nil, fun _ h => nomatch h⟩
    case turn =>
      rintro i v u nx h tk I oI R9 K9 hv ⟨pv, np', t8', nw2, tl, htl, rfl, pp, ab⟩ hI F2 N2
      obtain ⟨a, ta1, ta2, lo, hi, rfl, hps, hmem⟩ := pf.at hv
      have hmem' : (a, tupO [.int lo ta1, .int hi ta2]) ∈ tl := by rw [htl]; exact List.mem_append_right _ (List.mem_append_left _ hmem)
      have y1 : ∀ p ∈ tl, p.1 ≠ x := by rw [htl]; exact app_ne (fun p hp => Nat.ne_of_gt (Nat.lt_trans o2 (ab p hp))) (app_ne (fun p hp => Nat.ne_of_gt (hab p hp (x, _) (.tail _ (.tail _ (.head _))))) r1)
      have y2 : ∀ p ∈ tl, p.1 ≠ dx := by rw [htl]; exact app_ne (fun p hp => Nat.ne_of_gt (Nat.lt_trans o3 (ab p hp))) (app_ne (fun p hp => Nat.ne_of_gt (hab p hp (dx, _) (.tail _ (.tail _ (.tail _ (.head _)))))) r2)
      have y5 : ∀ p ∈ tl, p.1 ≠ pl := by rw [htl]; exact app_ne (fun p hp => Nat.ne_of_gt (Nat.lt_trans o6 (ab p hp))) (app_ne (fun p hp => Nat.ne_of_gt (hab p hp (pl, _) (.tail _ (.tail _ (.tail _ (.tail _ (.head _))))))) r5)
      have z1 : @Ne Nat I x := fun e => hI (x, _) (.head _) e.symm
      have z2 : @Ne Nat I dx := fun e => hI (dx, _) (.tail _ (.head _)) e.symm
      have z3 : @Ne Nat I y := fun e => hI (y, _) (.tail _ (.tail _ (.head _))) e.symm
      have z4 : @Ne Nat I dy := fun e => hI (dy, _) (.tail _ (.tail _ (.tail _ (.head _)))) e.symm
      have z5 : @Ne Nat I pl := fun e => hI (pl, _) (.tail _ (.tail _ (.tail _ (.tail _ (.head _))))) e.symm
      have z6 : ∀ p ∈ tl, p.1 ≠ I := fun p hp => hI p (.tail _ (.tail _ (.tail _ (.tail _ (.tail _ hp)))))
      have w1 := pp.length
      have w2 := flatMap_len _ 1 (foundOf_len b (b + (pay.length : Int))) rows
      have w3 := take_len (rows.flatMap (foundOf b (b + (pay.length : Int)))) i
      have w4 : pv.length < 1000 := by rw [List.length_map] at w1; omega
      have w5 : (pvs ++ pv).length < 2000 := by rw [List.length_append]; omega
      clear w1 w2 w3 w4 N8 F8 F9 N9 N1
      k_steps
      rename_i tB kB kb D h9 l9 h8 h7 F' N'
      have e : size + sumLen (List.take i (rows.flatMap (foundOf b (b + (pay.length : Int))))) + hi - lo = size + sumLen (List.take (i + 1) (rows.flatMap (foundOf b (b + (pay.length : Int))))) := by
        rw [take_succ_of hps]; simp only [sumLen, List.map_append, List.sum_append, List.map_cons, List.map_nil, List.sum_cons, List.sum_nil]; omega
      simp only [List.push_toArray, List.append_assoc] at N'
      rw [e] at N'
      refine K9.next F' N' (cons_mem (.tail _ (.head _)) (cons_mem (.tail _ (.tail _ (.head _))) (cons_mem (.tail _ (.tail _ (.tail _ (.head _)))) (cons_mem (.tail _ (.tail _ (.tail _ (.tail _ (.head _))))) (cons_mem (.tail _ (.tail _ (.tail _ (.tail _ (.tail _ (.head _)))))) (cons_mem (.tail _ (.tail _ (.tail _ (.tail _ (.tail _ (.tail _ (.head _))))))) (cons_mem (.head _) (fun _ h9 => (.tail _ (.tail _ (.tail _ (.tail _ (.tail _ (.tail _ (.tail _ h9))))))))))))))) (cons_ne z1.symm (cons_ne z2.symm (cons_ne z3.symm (cons_ne z4.symm (cons_ne z5.symm (cons_ne (Nat.ne_of_gt l9.1) z6)))))) ⟨?_, pv ++ [.ref D], np' + 1, _, (D, tupO [.int lo ta1, .bytes (KBy.picked arr (some (lo - b)) (some (hi - b))) tB]) :: nw2, (D, tupO [.int lo ta1, .bytes (KBy.picked arr (some (lo - b)) (some (hi - b))) tB]) :: tl, by rw [htl]; rfl, rfl, ?_, ?_⟩
      · intro z hz; repeat (first | refine if_off hz rfl ?_ | refine if_offL hz ?_ | exact rfl)
      · rw [take_succ_of hps, List.map_append]; exact (pp.mono (fun _ h => .tail _ h)).append (.cons (.head _) kb .nil)
      · exact List.forall_mem_cons.mpr ⟨allLt_mem l9.2.2.2.2.2.2 (fl, _) (by rw [htl]; exact List.mem_append_right _ (List.mem_append_left _ hfl)), ab⟩
    case done =>
      rintro u nx h tk ⟨pv, np', t8', nw2, tl, htl, rfl, pp, ab⟩ F2 N2
      rw [pf.length, List.take_length] at pp N2
      have y1 : ∀ p ∈ tl, p.1 ≠ x := by rw [htl]; exact app_ne (fun p hp => Nat.ne_of_gt (Nat.lt_trans o2 (ab p hp))) (app_ne (fun p hp => Nat.ne_of_gt (hab p hp (x, _) (.tail _ (.tail _ (.head _))))) r1)
      have y2 : ∀ p ∈ tl, p.1 ≠ dx := by rw [htl]; exact app_ne (fun p hp => Nat.ne_of_gt (Nat.lt_trans o3 (ab p hp))) (app_ne (fun p hp => Nat.ne_of_gt (hab p hp (dx, _) (.tail _ (.tail _ (.tail _ (.head _)))))) r2)
      have y3 : ∀ p ∈ tl, p.1 ≠ y := by rw [htl]; exact app_ne (fun p hp => Nat.ne_of_gt (Nat.lt_trans o4 (ab p hp))) (app_ne (fun p hp => Nat.ne_of_gt (hab p hp (y, _) (.head _))) r3)
      have y4 : ∀ p ∈ tl, p.1 ≠ dy := by rw [htl]; exact app_ne (fun p hp => Nat.ne_of_gt (Nat.lt_trans o5 (ab p hp))) (app_ne (fun p hp => Nat.ne_of_gt (hab p hp (dy, _) (.tail _ (.head _)))) r4)
      have y5 : ∀ p ∈ tl, p.1 ≠ pl := by rw [htl]; exact app_ne (fun p hp => Nat.ne_of_gt (Nat.lt_trans o6 (ab p hp))) (app_ne (fun p hp => Nat.ne_of_gt (hab p hp (pl, _) (.tail _ (.tail _ (.tail _ (.tail _ (.head _))))))) r5)
      have htl2 : tl = (nw2 ++ nw) ++ rest := by rw [htl, List.append_assoc]
      have hrest : ∀ p ∈ rest, p ∈ tl := fun p hp => by rw [htl2]; exact List.mem_append_right _ hp
      have hh' := hrest _ hh
      have hhd' := hrest _ hhd
      have hrl' : (rl', listOf (List.toArray rvs) cr) ∈ tl := by rw [htl]; exact List.mem_append_right _ (List.mem_append_left _ hrl)
      have pr' : PairsIn tl rvs (rows.flatMap (restOf b (b + (pay.length : Int)))) := pr.mono fun p hp => by rw [htl]; exact List.mem_append_right _ (List.mem_append_left _ hp)
      have pp' : PartsIn tl (pvs ++ pv) (parts ++ (rows.flatMap (foundOf b (b + (pay.length : Int)))).map (cutOf b pay)) := (hpp.mono hrest).append (pp.mono fun p hp => by rw [htl]; exact List.mem_append_left _ hp)
      have hrlN : (rl', listOf (List.toArray rvs) cr) ∈ nw2 ++ nw := List.mem_append_right _ hrl
      have prN : PairsIn (nw2 ++ nw) rvs (rows.flatMap (restOf b (b + (pay.length : Int)))) := pr.mono fun p hp => List.mem_append_right _ hp
      have ppN : PartsIn (nw2 ++ nw) pv ((rows.flatMap (foundOf b (b + (pay.length : Int)))).map (cutOf b pay)) := pp.mono fun p hp => List.mem_append_left _ hp
      have hA : ∀ p ∈ nw2 ++ nw, ∀ q ∈ (x, instObj 177 dx) :: (dx, dictOf [⟨g1, .str (Str.ofString "began") k1, bv⟩, ⟨g2, .str (Str.ofString "most") k2, .int 64 t2⟩, ⟨g3, .str (Str.ofString "holes") k3, .ref y⟩, ⟨g4, .str (Str.ofString "parts") k4, .ref pl⟩, ⟨g5, .str (Str.ofString "end") k5, endv⟩, ⟨g6, .str (Str.ofString "ahead") k6, .int ahead t6⟩, ⟨g7, .str (Str.ofString "first") k7, fv⟩, ⟨g8, .str (Str.ofString "size") k8, .int size t8⟩] 8) :: (y, instObj 123 dy) :: (dy, dictOf [⟨q1, .str (Str.ofString "most") q3, .int 64 q5⟩, ⟨q2, .str (Str.ofString "rows") q4, .ref rl⟩] 2) :: (pl, listOf (List.toArray pvs) np) :: rest, @LT.lt Nat _ q.1 p.1 :=
        fun p hp q hq => (List.mem_append.mp hp).elim (fun h => Nat.lt_trans (hab _ hfl q (perm_fro _ _ _ _ _ _ q hq)) (ab p h)) fun h => hab p h q (perm_fro _ _ _ _ _ _ q hq)
      clear N8 F8 F9 N9 N1
      subst htl2
      have mark8 : Mark := trivial
      k_steps
      unfold Hold
      rename Fr _ _ _ _ => F3
      rename News _ _ _ _ => N3
      refine wpAny_mono (Q := fun f s' => Hold (f = Flow.next ∧ Ex11 fun h' tk' ev2 ah2 t62 rl2 rvs2 cr2 nwA rows2 fin2 => An11 (s' = { s with heap := h', toks := tk' }) (sameF F3 h') (sameN N3 h' ((x, instObj 177 dx) :: (dx, dictOf [⟨g1, .str (Str.ofString "began") k1, bv⟩, ⟨g2, .str (Str.ofString "most") k2, .int 64 t2⟩, ⟨g3, .str (Str.ofString "holes") k3, .ref y⟩, ⟨g4, .str (Str.ofString "parts") k4, .ref pl⟩, ⟨g5, .str (Str.ofString "end") k5, ev2⟩, ⟨g6, .str (Str.ofString "ahead") k6, .int ah2 t62⟩, ⟨g7, .str (Str.ofString "first") k7, fv⟩, ⟨g8, .str (Str.ofString "size") k8, .int (size + sumLen (rows.flatMap (foundOf b (b + (pay.length : Int))))) t8'⟩] 8) :: (y, instObj 123 dy) :: (dy, dictOf [⟨q1, .str (Str.ofString "most") q3, .int 64 q5⟩, ⟨q2, .str (Str.ofString "rows") q4, .ref rl2⟩] 2) :: (pl, listOf (List.toArray (pvs ++ pv)) np') :: (nwA ++ rest)))
        (IsOpt ev2 fin2) ((rl2, listOf (List.toArray rvs2) cr2) ∈ nwA) (PairsIn nwA rvs2 rows2) (PartsIn nwA pv ((rows.flatMap (foundOf b (b + (pay.length : Int)))).map (cutOf b pay))) (Above ((x, instObj 177 dx) :: (dx, dictOf [⟨g1, .str (Str.ofString "began") k1, bv⟩, ⟨g2, .str (Str.ofString "most") k2, .int 64 t2⟩, ⟨g3, .str (Str.ofString "holes") k3, .ref y⟩, ⟨g4, .str (Str.ofString "parts") k4, .ref pl⟩, ⟨g5, .str (Str.ofString "end") k5, endv⟩, ⟨g6, .str (Str.ofString "ahead") k6, .int ahead t6⟩, ⟨g7, .str (Str.ofString "first") k7, fv⟩, ⟨g8, .str (Str.ofString "size") k8, .int size t8⟩] 8) :: (y, instObj 123 dy) :: (dy, dictOf [⟨q1, .str (Str.ofString "most") q3, .int 64 q5⟩, ⟨q2, .str (Str.ofString "rows") q4, .ref rl⟩] 2) :: (pl, listOf (List.toArray pvs) np) :: rest) nwA) (rows2 = (putF ⟨rows, parts, fin, fst, ahead, size⟩ hx more b pay).rows) (fin2 = (putF ⟨rows, parts, fin, fst, ahead, size⟩ hx more b pay).fin) (ah2 = (putF ⟨rows, parts, fin, fst, ahead, size⟩ hx more b pay).ahead))) ?_ ?_ (fun _ _ x => x)
      · clear mark8
        have F4 := F3
        have N4 := N3
        refine wpAny_If ?_
        cases more with
        | true =>
          k_steps
          unfold Hold
          rename Fr _ _ _ _ => F5
          rename News _ _ _ _ => N5
          exact ⟨rfl, _, _, _, _, _, _, _, _, _, _, _, rfl, F5, N5, hf, hrlN, prN, ppN, hA, rfl, rfl, rfl⟩
        | false =>
          cases fin with
          | some f =>
            obtain ⟨tf, rfl⟩ : ∃ t, endv = .int f t := hf
            k_steps
            unfold Hold
            rename Fr _ _ _ _ => F5
            rename News _ _ _ _ => N5
            exact ⟨rfl, _, _, _, _, _, _, _, _, _, _, some f, rfl, F5, N5, ⟨_, rfl⟩, hrlN, prN, ppN, hA, rfl, rfl, rfl⟩
          | none =>
            obtain rfl : endv = .none := hf
            k_steps
            rename News _ _ _ _ => N5
            rename Fr _ _ _ _ => F5
            refine unhold ?_
            refine Ctr.use F5 N5 (end_ctr (rest := (x, _) :: (dx, _) :: (pl, _) :: ((nw2 ++ nw) ++ rest)) s8 (cons_ne s2 (cons_ne s5 (cons_ne s9.symm y3))) (cons_ne s3 (cons_ne s6 (cons_ne s0.symm y4))) (.tail _ (.tail _ (.tail _ hrl'))) (pr'.mono fun _ h => .tail _ (.tail _ (.tail _ h))) hn4) (perm_bef _ _ _ _ _ _) (by k_asm) (by k_asm) (by k_asm) (by first | assumption | exact rfl) (by ktr_room) (by ktr_units) ?_
            rintro r8 h8 tk8 nx8 F8 N8 ⟨rl2, rvs2, cr2, nw3, rfl, rfl, hrl2, pr2, hab2⟩
            replace N8 := News.sub N8 (perm_aft _ _ _ _ _ _ _)
            rw [← List.append_assoc] at N8
            have hB : Above ((x, instObj 177 dx) :: (dx, dictOf [⟨g1, .str (Str.ofString "began") k1, bv⟩, ⟨g2, .str (Str.ofString "most") k2, .int 64 t2⟩, ⟨g3, .str (Str.ofString "holes") k3, .ref y⟩, ⟨g4, .str (Str.ofString "parts") k4, .ref pl⟩, ⟨g5, .str (Str.ofString "end") k5, .none⟩, ⟨g6, .str (Str.ofString "ahead") k6, .int ahead t6⟩, ⟨g7, .str (Str.ofString "first") k7, fv⟩, ⟨g8, .str (Str.ofString "size") k8, .int size t8⟩] 8) :: (y, instObj 123 dy) :: (dy, dictOf [⟨q1, .str (Str.ofString "most") q3, .int 64 q5⟩, ⟨q2, .str (Str.ofString "rows") q4, .ref rl⟩] 2) :: (pl, listOf (List.toArray pvs) np) :: rest) (nw3 ++ (nw2 ++ nw)) := by
              intro p hp q hq
              rcases List.mem_append.mp hp with hp | hp
              · exact Nat.lt_trans (hab _ hfl q (perm_fro _ _ _ _ _ _ q hq)) (hab2 p hp (fl, _) (.tail _ (.tail _ (.tail _ (.tail _ (.tail _ (List.mem_append_left _ (List.mem_append_right _ hfl))))))))
              · exact hA p hp q hq
            dsimp only
            clear N5 F5
            k_steps
            refine unhold ?_
            rename Fr _ _ _ _ => F5
            rename News _ _ _ _ => N5
            exact ⟨rfl, _, _, _, _, _, _, _, _, _, _, some (b + (pay.length : Int)), rfl, F5, N5, ⟨_, rfl⟩, List.mem_append_left _ hrl2, pr2.mono fun p hp => List.mem_append_left _ hp, ppN.mono fun p hp => List.mem_append_right _ hp, hB, rfl, rfl, rfl⟩
      · clear mark8 hf hrlN prN ppN hA hrl' pr' pp'
        rintro f s' hq5
        unfold Hold at hq5
        obtain ⟨rfl, h7, tk7, ev2, ah2, t62, rl2, rvs2, cr2, nwA, rows2, fin2, rfl, F7, N7, hf2, hrl2, pr2, pp2, hA2, rfl, rfl, rfl⟩ := hq5
        unfold sameF at F7
        unfold sameN at N7
        clear F3 N3
        have a1 : ∀ p ∈ nwA ++ rest, p.1 ≠ x := app_ne (fun p hp => Nat.ne_of_gt (hA2 p hp (x, _) (.head _))) r1
        have a2 : ∀ p ∈ nwA ++ rest, p.1 ≠ dx := app_ne (fun p hp => Nat.ne_of_gt (hA2 p hp (dx, _) (.tail _ (.head _)))) r2
        have a3 := List.mem_append_right nwA hh
        have a4 := List.mem_append_right nwA hhd
        cases fst with
        | none =>
          obtain rfl : fv = .none := hfv
          k_steps
          · skip
            rename News h₀ L _ _ => N'
            rename Fr h₀ L _ m => F'
            exact hret _ _ _ _ F' N' (.inr ⟨hag, _, _, _, _, _, _, rfl, rfl, rfl, ⟨_, _, rl2, rvs2, _, _, ⟨_, _, _, _, _, _, _, _, _, _, _, _, _, _, _, _, _, _, _, _, rfl⟩, hf2, putF_yes (by assumption), ⟨_, _, _, _, _, rfl⟩, hrl2, pr2, rfl, pp2⟩, hA2⟩)
          · skip
            rename News h₀ L _ _ => N'
            rename Fr h₀ L _ m => F'
            exact hret _ _ _ _ F' N' (.inr ⟨hag, _, _, _, _, _, _, rfl, rfl, rfl, ⟨_, _, rl2, rvs2, _, _, ⟨_, _, _, _, _, _, _, _, _, _, _, _, _, _, _, _, _, _, _, _, rfl⟩, hf2, putF_no (by assumption), ⟨_, _, _, _, _, rfl⟩, hrl2, pr2, rfl, pp2⟩, hA2⟩)
        | some z =>
          obtain rfl : fv = .ref z := hfv
          k_steps
          all_goals
            rename News h₀ L _ _ => N'
            rename Fr h₀ L _ m => F'
            exact hret _ _ _ _ F' N' (.inr ⟨hag, _, _, _, _, _, _, rfl, rfl, rfl, ⟨_, _, rl2, rvs2, _, _, ⟨_, _, _, _, _, _, _, _, _, _, _, _, _, _, _, _, _, _, _, _, rfl⟩, hf2, rfl, ⟨_, _, _, _, _, rfl⟩, hrl2, pr2, rfl, pp2⟩, hA2⟩)
end
/-! part: CompR -/
section
open PyProof.Rows.LCg PyProof.Rows.LCt PyProof.Rows.LCp
section
variable {prog : Program} {w : World} {A : Around} {E : Value → Shared → Prop} {s : Shared} {h₀ : Heap} {L : Addr} {m : PySem.Str → Option Value} {env : Env} {scope : Scope} {cl : List (PySem.Str × Addr)} {S : List (Addr × Obj) → Prop} {P : Nat → Value → Prop} {Fin : List Value → List (Addr × Obj) → Prop}
theorem CompEnd.weak {L I C D : Addr} {m : PySem.Str → Option Value} {s₁ s₂ : Shared} {oI oC oD : Obj} {rest rest' : Value → List (Addr × Obj) → Prop} {y : Value} (h : CompEnd h₀ L m s₁ I oI C oC D oD S rest y s₂) (hr : ∀ n, rest y n → rest' y n) : CompEnd h₀ L m s₁ I oI C oC D oD S rest' y s₂ := by
  obtain ⟨h', tk, news', e, F, N, o, hS, r⟩ := h
  exact ⟨h', tk, news', e, F, N, o, hS, hr _ r⟩
theorem restU_ind {elt : PySem.Expr} {x : PySem.Str} {n : Nat} {news : List (Addr × Obj)} (J : Nat → List Value → List (Addr × Obj) → Prop)
    (turn : ∀ i ys news, i < n → J i ys news → ∀ v I oI C oC D m₂ h tk (E' : Value → Shared → Prop), P i v → NsObj oC m₂ → m₂ x = some v → Fr h₀ L h m → News h₀ L h ((I, oI) :: (C, oC) :: (D, lst ys) :: news) → Off3 I C D news → ((@Ne Nat I C) ∧ (@Ne Nat I D) ∧ (@Ne Nat C D)) →
      wpAny (model prog w) A (eval elt (compEnvC scope cl C env)) (CompEnd h₀ L m { s with heap := h, toks := tk } I oI C oC D (lst ys) S (fun y news' => J (i + 1) (ys ++ [y]) news')) E' { s with heap := h, toks := tk })
    (done : ∀ ys news, J n ys news → Fin ys news) (j0 : J 0 [] news) : CompRest prog w A h₀ L m env elt x scope cl s S P Fin n 0 [] news := by
  have all : ∀ k i ys news, i + k = n → J i ys news → CompRest prog w A h₀ L m env elt x scope cl s S P Fin k i ys news := by
    intro k
    induction k with
    | zero => intro i ys news e j; obtain rfl : i = n := by omega
              exact CompRest.zero (done _ _ j)
    | succ k ih =>
      intro i ys news e j
      refine CompRest.succ fun v I oI C oC D m₂ h tk E' hP hC hx F N o ne => ?_
      exact wpAny_mono (turn i ys news (by omega) j v I oI C oC D m₂ h tk E' hP hC hx F N o ne) (fun y s' c => CompEnd.weak c fun n' j' => ih _ _ _ (by omega) j') fun _ _ e => e
  exact all n 0 [] news (by omega) j0
theorem restT_ind {ct elt : PySem.Expr} {x : PySem.Str} {n : Nat} {news : List (Addr × Obj)} (J : Nat → List Value → List (Addr × Obj) → Prop)
    (turn : ∀ i ys news, i < n → J i ys news → ∀ v I oI C oC D m₂ h tk (E' : Value → Shared → Prop), P i v → NsObj oC m₂ → m₂ x = some v → Fr h₀ L h m → News h₀ L h ((I, oI) :: (C, oC) :: (D, lst ys) :: news) → Off3 I C D news → ((@Ne Nat I C) ∧ (@Ne Nat I D) ∧ (@Ne Nat C D)) →
      wpAny (model prog w) A (isTrue ct (compEnvC scope cl C env) (eval ct (compEnvC scope cl C env))) (fun ok s' => if ok = true then
        wpAny (model prog w) A (eval elt (compEnvC scope cl C env)) (CompEnd h₀ L m { s with heap := h, toks := tk } I oI C oC D (lst ys) S (fun y news' => J (i + 1) (ys ++ [y]) news')) E' s'
        else CompEnd h₀ L m { s with heap := h, toks := tk } I oI C oC D (lst ys) S (fun _ news' => J (i + 1) ys news') Value.none s') E' { s with heap := h, toks := tk })
    (done : ∀ ys news, J n ys news → Fin ys news) (j0 : J 0 [] news) : CompRestT prog w A h₀ L m env ct elt x scope cl s S P Fin n 0 [] news := by
  have all : ∀ k i ys news, i + k = n → J i ys news → CompRestT prog w A h₀ L m env ct elt x scope cl s S P Fin k i ys news := by
    intro k
    induction k with
    | zero => intro i ys news e j; obtain rfl : i = n := by omega
              exact CompRestT.zero (done _ _ j)
    | succ k ih =>
      intro i ys news e j
      refine CompRestT.succ fun v I oI C oC D m₂ h tk E' hP hC hx F N o ne => ?_
      refine wpAny_mono (turn i ys news (by omega) j v I oI C oC D m₂ h tk E' hP hC hx F N o ne) (fun ok s' c => ?_) fun _ _ e => e
      cases ok with
      | true => 
        simp only [if_true] at c ⊢
        exact wpAny_mono c (fun y s' c => CompEnd.weak c fun n' j' => ih _ _ _ (by omega) j') fun _ _ e => e
      | false => 
        simp only [Bool.false_eq_true, if_false] at c ⊢
        exact CompEnd.weak c fun n' j' => ih _ _ _ (by omega) j'
  exact all n 0 [] news (by omega) j0
theorem restP_ind {elt : PySem.Expr} {x x₂ : PySem.Str} {n : Nat} {news : List (Addr × Obj)} (J : Nat → List Value → List (Addr × Obj) → Prop)
    (turn : ∀ i ys news, i < n → J i ys news → ∀ v, P i v → ∃ (t : Addr) (ot : Obj) (v₁ v₂ : Value) (nt : Nat), v = .ref t ∧ (t, ot) ∈ news ∧ ot.cls = .type "tuple" ∧ ot.data = .seq #[v₁, v₂] nt ∧
      ∀ I oI C oC D m₂ h tk (E' : Value → Shared → Prop), NsObj oC m₂ → m₂ x = some v₁ → m₂ x₂ = some v₂ → Fr h₀ L h m → News h₀ L h ((I, oI) :: (C, oC) :: (D, lst ys) :: news) → Off3 I C D news → ((@Ne Nat I C) ∧ (@Ne Nat I D) ∧ (@Ne Nat C D)) →
      wpAny (model prog w) A (eval elt (compEnvC scope cl C env)) (CompEnd h₀ L m { s with heap := h, toks := tk } I oI C oC D (lst ys) S (fun y news' => J (i + 1) (ys ++ [y]) news')) E' { s with heap := h, toks := tk })
    (done : ∀ ys news, J n ys news → Fin ys news) (j0 : J 0 [] news) : CompRestP prog w A h₀ L m env elt x x₂ scope cl s S P Fin n 0 [] news := by
  have all : ∀ k i ys news, i + k = n → J i ys news → CompRestP prog w A h₀ L m env elt x x₂ scope cl s S P Fin k i ys news := by
    intro k
    induction k with
    | zero => intro i ys news e j; obtain rfl : i = n := by omega
              exact CompRestP.zero (done _ _ j)
    | succ k ih =>
      intro i ys news e j
      refine CompRestP.succ fun v hP => ?_
      obtain ⟨t, ot, v₁, v₂, nt, a1, a2, a3, a4, go⟩ := turn i ys news (by omega) j v hP
      refine ⟨t, ot, v₁, v₂, nt, a1, a2, a3, a4, fun I oI C oC D m₂ h tk E' hC hx hy F N o ne => ?_⟩
      exact wpAny_mono (go I oI C oC D m₂ h tk E' hC hx hy F N o ne) (fun y s' c => CompEnd.weak c fun n' j' => ih _ _ _ (by omega) j') fun _ _ e => e
  exact all n 0 [] news (by omega) j0
end
end
/-! part: SortP -/
section
section
def kasP {α : Type} (lt : Nat → Nat → Bool) (N : Nat) : KasT α → (α → Prop) → Prop
  | .ret a, G => G a
  | .ask i j k, G => i < N ∧ j < N ∧ i ≠ j ∧ kasP lt N (k (lt i j)) G
theorem kasP_bind {α β : Type} {lt : Nat → Nat → Bool} {N : Nat} {f : α → KasT β} {G : β → Prop} : ∀ (t : KasT α), kasP lt N t (fun a => kasP lt N (f a) G) → kasP lt N (t.bind f) G
  | .ret _, h => h
  | .ask i j k, h => ⟨h.1, h.2.1, h.2.2.1, kasP_bind (k (lt i j)) h.2.2.2⟩
theorem kasP_mono {α : Type} {lt : Nat → Nat → Bool} {N : Nat} {G G' : α → Prop} (hg : ∀ a, G a → G' a) : ∀ (t : KasT α), kasP lt N t G → kasP lt N t G'
  | .ret _, h => hg _ h
  | .ask i j k, h => ⟨h.1, h.2.1, h.2.2.1, kasP_mono hg (k (lt i j)) h.2.2.2⟩
theorem kasP_wp {α : Type} {lt : Nat → Nat → Bool} {N : Nat} {cmp : Nat → Nat → (Bool → Shared → Prop) → Shared → Prop} {s : Shared} (hc : ∀ i j C, i < N → j < N → i ≠ j → C (lt i j) s → cmp i j C s) {G : α → Prop} {Q : α → Shared → Prop} (hQ : ∀ a, G a → Q a s) :
    ∀ (t : KasT α), kasP lt N t G → t.kasWp cmp Q s
  | .ret _, h => hQ _ h
  | .ask i j k, h => hc i j _ h.1 h.2.1 h.2.2.1 (kasP_wp hc hQ (k (lt i j)) h.2.2.2)
variable {key : Nat → Int} {N : Nat}
def sq (key : Nat → Int) (p : Array Nat) (i : Nat) : Int := key (p.getD i 0)
def SortTo (key : Nat → Int) (p : Array Nat) (k : Nat) : Prop := ∀ i j, i < j → j < k → sq key p i < sq key p j
def DescTo (key : Nat → Int) (p : Array Nat) (k : Nat) : Prop := ∀ i j, i < j → j < k → sq key p j < sq key p i
def GoodP (N : Nat) (p : Array Nat) : Prop := p.size = N ∧ p.toList.Perm (List.range N)
theorem GoodP.lt {p : Array Nat} (g : GoodP N p) {i : Nat} (hi : i < N) : p.getD i 0 < N := by
  have h : i < p.size := by rw [g.1]; exact hi
  have : p.getD i 0 = p[i] := by simp [h]
  rw [this]
  have hm : p[i] ∈ p.toList := by simp
  exact List.mem_range.mp (g.2.mem_iff.mp hm)
theorem GoodP.ne {p : Array Nat} (g : GoodP N p) {i j : Nat} (hi : i < N) (hj : j < N) (h : i ≠ j) : p.getD i 0 ≠ p.getD j 0 := by
  have h1 : i < p.size := by rw [g.1]; exact hi
  have h2 : j < p.size := by rw [g.1]; exact hj
  have e1 : p.getD i 0 = p.toList[i]'(by simpa using h1) := by simp [h1]
  have e2 : p.getD j 0 = p.toList[j]'(by simpa using h2) := by simp [h2]
  have nd : p.toList.Nodup := g.2.nodup_iff.mpr List.nodup_range
  rw [e1, e2]
  have pw := List.pairwise_iff_getElem.mp nd
  rcases Nat.lt_or_gt_of_ne h with hlt | hlt
  · exact pw i j (by simpa using h1) (by simpa using h2) hlt
  · exact (pw j i (by simpa using h2) (by simpa using h1) hlt).symm
theorem sq_tri (inj : ∀ i j, i < N → j < N → key i = key j → i = j) {p : Array Nat} (g : GoodP N p) {i j : Nat} (hi : i < N) (hj : j < N) (h : i ≠ j) (hn : ¬ sq key p i < sq key p j) : sq key p j < sq key p i := by
  have h1 : key (p.getD i 0) ≠ key (p.getD j 0) := fun e => g.ne hi hj h (inj _ _ (g.lt hi) (g.lt hj) e)
  unfold sq at *; omega
abbrev klt (key : Nat → Int) (i j : Nat) : Bool := decide (key i < key j)
theorem asc_ok (inj : ∀ i j, i < N → j < N → key i = key j → i = j) {p : Array Nat} (g : GoodP N p) {G : Nat → Prop} : ∀ f n, 1 ≤ n → n + f ≤ N → SortTo key p n →
    (∀ m, n ≤ m → m ≤ n + f → SortTo key p m → (m < n + f → sq key p m < sq key p (m - 1)) → G m) → kasP (klt key) N (kas_asc p f n) G
  | 0, n, h1, h2, hs, hG => hG n (Nat.le_refl _) (Nat.le_refl _) hs (fun h => absurd h (Nat.lt_irrefl _))
  | f + 1, n, h1, h2, hs, hG => by
    refine ⟨g.lt (by omega), g.lt (by omega), g.ne (by omega) (by omega) (by omega), ?_⟩
    by_cases hc : sq key p n < sq key p (n - 1)
    · have : klt key (p.getD n 0) (p.getD (n - 1) 0) = true := decide_eq_true hc
      simp only [this, if_true]
      exact hG n (Nat.le_refl _) (by omega) hs fun _ => hc
    · have : klt key (p.getD n 0) (p.getD (n - 1) 0) = false := decide_eq_false hc
      simp only [this, Bool.false_eq_true, if_false]
      have h' := sq_tri inj g (by omega) (by omega) (by omega) hc
      refine asc_ok inj g f (n + 1) (by omega) (by omega) (fun i j hij hj => ?_) fun m h3 h4 h5 h6 => hG m (by omega) (by omega) h5 fun h => h6 (by omega)
      by_cases hjn : j < n
      · exact hs i j hij hjn
      · obtain rfl : j = n := by omega
        by_cases hi : i = j - 1
        · subst hi; exact h'
        · exact Int.lt_trans (hs i (j - 1) (by omega) (by omega)) h'
theorem desc_ok (inj : ∀ i j, i < N → j < N → key i = key j → i = j) {p : Array Nat} (g : GoodP N p) {G : Array Nat × Nat × Nat → Prop} : ∀ f n, 1 ≤ n → n + f ≤ N → DescTo key p n →
    (∀ m, n ≤ m → m ≤ n + f → DescTo key p m → G (p, m, 0)) → kasP (klt key) N (kas_desc f p n 0) G
  | 0, n, h1, h2, hs, hG => hG n (Nat.le_refl _) (Nat.le_refl _) hs
  | f + 1, n, h1, h2, hs, hG => by
    refine ⟨g.lt (by omega), g.lt (by omega), g.ne (by omega) (by omega) (by omega), ?_⟩
    by_cases hc : sq key p n < sq key p (n - 1)
    · have : klt key (p.getD n 0) (p.getD (n - 1) 0) = true := decide_eq_true hc
      simp only [this, if_true]
      rw [if_neg (by omega)]
      refine desc_ok inj g f (n + 1) (by omega) (by omega) (fun i j hij hj => ?_) fun m h3 h4 h5 => hG m (by omega) (by omega) h5
      by_cases hjn : j < n
      · exact hs i j hij hjn
      · obtain rfl : j = n := by omega
        by_cases hi : i = j - 1
        · subst hi; exact hc
        · exact Int.lt_trans hc (hs i (j - 1) (by omega) (by omega))
    · have : klt key (p.getD n 0) (p.getD (n - 1) 0) = false := decide_eq_false hc
      simp only [this, Bool.false_eq_true, if_false]
      have h' := sq_tri inj g (by omega) (by omega) (by omega) hc
      refine ⟨g.lt (by omega), g.lt (by omega), g.ne (by omega) (by omega) (by omega), ?_⟩
      have : klt key (p.getD (n - 1) 0) (p.getD n 0) = true := decide_eq_true h'
      simp only [this, if_true]
      exact hG n (Nat.le_refl _) (by omega) hs
theorem getD_of {p q : Array Nat} {i j : Nat} (h : p[i]? = q[j]?) : p.getD i 0 = q.getD j 0 := by
  simp only [Array.getD_eq_getD_getElem?, h]
theorem rev_good {p : Array Nat} (g : GoodP N p) (i j : Nat) : GoodP N (kas_rev p i j) :=
  ⟨by unfold kas_rev; rw [PyProof.Rows.mirror_size]; exact g.1, (Array.perm_iff_toList_perm.mp (PyProof.Rows.mirror_perm p i j _)).trans g.2⟩
theorem rev_sort {p : Array Nat} (g : GoodP N p) {m : Nat} (hm : m ≤ N) (h : DescTo key p m) : SortTo key (kas_rev p 0 m) m := by
  intro i j hij hj
  have e : ∀ k, k < m → sq key (kas_rev p 0 m) k = sq key p (m - 1 - k) := fun k hk => by
    unfold sq kas_rev
    refine congrArg key (getD_of ?_)
    rw [PyProof.Rows.getElem?_mirror_all (by rw [g.1]; exact hm), if_pos ⟨Nat.zero_le _, hk⟩]; congr 1; omega
  rw [e i (by omega), e j hj]
  exact h (m - 1 - j) (m - 1 - i) (by omega) (by omega)
theorem place_ok (inj : ∀ i j, i < N → j < N → key i = key j → i = j) {p : Array Nat} (g : GoodP N p) {k : Nat} (hk : k < N) (hs : SortTo key p k) {G : Nat → Prop}
    (hG : ∀ l, l ≤ k → (∀ i, i < l → sq key p i < sq key p k) → (∀ i, l ≤ i → i < k → sq key p k < sq key p i) → G l) : ∀ f l r, l ≤ r → r ≤ k → r - l ≤ f →
    (∀ i, i < l → sq key p i < sq key p k) → (∀ i, r ≤ i → i < k → sq key p k < sq key p i) → kasP (klt key) N (kas_place p k f l r) G
  | 0, l, r, h1, h2, h3, a, b => hG l (by omega) a (fun i h4 h5 => b i (by omega) h5)
  | f + 1, l, r, h1, h2, h3, a, b => by
    unfold kas_place
    by_cases hlr : l ≥ r
    · rw [if_pos hlr]
      exact hG l (by omega) a (fun i h4 h5 => b i (by omega) h5)
    · rw [if_neg hlr]
      refine ⟨g.lt (by omega), g.lt (by omega), g.ne (by omega) (by omega) (by omega), ?_⟩
      by_cases hc : sq key p k < sq key p ((l + r) / 2)
      · have : klt key (p.getD k 0) (p.getD ((l + r) / 2) 0) = true := decide_eq_true hc
        simp only [this, if_true]
        refine place_ok inj g hk hs hG f l ((l + r) / 2) (by omega) (by omega) (by omega) a fun i h4 h5 => ?_
        by_cases hi : i = (l + r) / 2
        · subst hi; exact hc
        · exact Int.lt_trans hc (hs _ i (by omega) h5)
      · have : klt key (p.getD k 0) (p.getD ((l + r) / 2) 0) = false := decide_eq_false hc
        simp only [this, Bool.false_eq_true, if_false]
        have h' := sq_tri inj g hk (by omega) (by omega) hc
        refine place_ok inj g hk hs hG f ((l + r) / 2 + 1) r (by omega) (by omega) (by omega) (fun i h4 => ?_) b
        by_cases hi : i = (l + r) / 2
        · subst hi; exact h'
        · exact Int.lt_trans (hs i ((l + r) / 2) (by omega) (by omega)) h'
theorem bub_good {p : Array Nat} (g : GoodP N p) (k d : Nat) : GoodP N (bubble p k d) :=
  ⟨by rw [PyProof.Rows.bubble_size]; exact g.1, (Array.perm_iff_toList_perm.mp (PyProof.Rows.bubble_perm p k d)).trans g.2⟩
theorem bin_ok (inj : ∀ i j, i < N → j < N → key i = key j → i = j) : ∀ f (p : Array Nat) k, k + f = N → GoodP N p → SortTo key p k → kasP (klt key) N (kas_bin f p k) (fun p' => GoodP N p' ∧ SortTo key p' N)
  | 0, p, k, h, g, hs => ⟨g, fun i j h1 h2 => hs i j h1 (by omega)⟩
  | f + 1, p, k, h, g, hs => by
    unfold kas_bin
    refine kasP_bind _ (place_ok inj g (by omega) hs (fun l hl a b => ?_) k 0 k (Nat.zero_le _) (Nat.le_refl _) (by omega) (fun i hi => absurd hi (Nat.not_lt_zero _)) (fun i h1 h2 => absurd h2 (by omega)))
    refine bin_ok inj f _ (k + 1) (by omega) (bub_good g _ _) fun i j hij hj => ?_
    have e : ∀ c, sq key (bubble p k (k - l)) c = if c = l then sq key p k else if l < c ∧ c ≤ k then sq key p (c - 1) else sq key p c := fun c => by
      have e0 := PyProof.Rows.getElem?_bubble (xs := p) (src := k) (by rw [g.1]; omega) (k - l) (by omega) c
      have e1 : k - (k - l) = l := by omega
      rw [e1] at e0
      unfold sq
      by_cases h1 : c = l
      · rw [if_pos h1] at e0 ⊢; exact congrArg key (getD_of e0)
      · rw [if_neg h1] at e0 ⊢
        by_cases h2 : l < c ∧ c ≤ k
        · rw [if_pos h2] at e0 ⊢; exact congrArg key (getD_of e0)
        · rw [if_neg h2] at e0 ⊢; exact congrArg key (getD_of e0)
    rw [e i, e j]
    by_cases h1 : i = l
    · rw [if_pos h1, if_neg (by omega), if_pos (by omega)]
      exact b _ (by omega) (by omega)
    · rw [if_neg h1]
      by_cases h2 : l < i ∧ i ≤ k
      · rw [if_pos h2, if_neg (by omega), if_pos (by omega)]
        exact hs _ _ (by omega) (by omega)
      · rw [if_neg h2]
        by_cases h3 : j = l
        · rw [if_pos h3]; exact a _ (by omega)
        · rw [if_neg h3]
          by_cases h4 : l < j ∧ j ≤ k
          · rw [if_pos h4]
            exact hs _ _ (by omega) (by omega)
          · rw [if_neg h4]; exact hs _ _ hij (by omega)
theorem range_good (N : Nat) : GoodP N (List.toArray (List.range N)) := ⟨by simp, by simp⟩
theorem sort_ok (inj : ∀ i j, i < N → j < N → key i = key j → i = j) (h2 : 2 ≤ N) : kasP (klt key) N (kas_sort N) (fun p' => GoodP N p' ∧ SortTo key p' N) := by
  have g := range_good N
  unfold kas_sort
  refine kasP_bind _ ?_
  have fin : ∀ m p, 1 ≤ m → m ≤ N → GoodP N p → SortTo key p m → kasP (klt key) N (if (m, p).1 < N then kas_bin (N - max (m, p).1 1) (m, p).2 (max (m, p).1 1) else .ret (m, p).2) (fun p' => GoodP N p' ∧ SortTo key p' N) := by
    intro m p h1 h3 gp hs
    dsimp only
    by_cases h : m < N
    · rw [if_pos h, Nat.max_eq_left h1]; exact bin_ok inj _ _ _ (by omega) gp hs
    · rw [if_neg h]; obtain rfl : m = N := by omega
      exact ⟨gp, hs⟩
  unfold kas_count
  refine kasP_bind _ (asc_ok inj g _ _ (Nat.le_refl _) (by omega) (fun i j h1 h2 => by omega) fun n h3 h4 hs hlt => ?_)
  by_cases hn : n = N
  · rw [if_pos (by simpa using hn)]; exact fin _ _ h3 (by omega) g hs
  · rw [if_neg (by simpa using hn)]
    by_cases h1 : n > 1
    · rw [if_pos h1]
      refine ⟨g.lt (by omega), g.lt (by omega), g.ne (by omega) (by omega) (by omega), ?_⟩
      have : klt key ((List.toArray (List.range N)).getD 0 0) ((List.toArray (List.range N)).getD (n - 1) 0) = true := decide_eq_true (hs 0 (n - 1) (by omega) (by omega))
      simp only [this, if_true]
      exact fin _ _ h3 (by omega) g hs
    · rw [if_neg h1]
      obtain rfl : n = 1 := by omega
      have hd := hlt (by omega)
      unfold kas_descPart
      refine kasP_bind _ (desc_ok inj g _ _ (by omega) (by omega) (fun i j hij hj => ?_) fun m h5 h6 hdm => ?_)
      · obtain rfl : i = 0 := by omega
        obtain rfl : j = 1 := by omega
        exact hd
      · dsimp only
        rw [if_neg (by omega)]
        unfold kas_tail3
        have gr := rev_good g 0 m
        refine kasP_bind _ (asc_ok inj gr _ _ (by omega) (by omega) (rev_sort g (by omega) hdm) fun m' h7 h8 hs' _ => ?_)
        exact fin _ _ (by omega) (by omega) gr hs'
end
end
/-! part: SortW -/
section
section
variable {prog : Program} {w : World} {A : Around} {E : Value → Shared → Prop} {s : Shared}
theorem sort_short {a : Addr} {vs : List Value} {n : Nat} {P : PySem.Fin → Shared → Prop} (ho : s.heap.get? a = some (seqObj "list" vs.toArray n)) (h2 : vs.length < 2)
    (h : P (.done (.ret .none)) { s with heap := sortedHeap s.heap a vs vs.toArray }) : wpAny (model prog w) A (Builtin.«list.sort» ⟨[.ref a], []⟩) P E s := by
  have ha : a < s.heap.objs.size := Heap.lt_size ho
  obtain ⟨e1, ho1⟩ : ∃ e1, (s.heap.update a (Obj.mapSeq fun _ => #[])).get? a = some (seqObj "list" #[] e1) := ⟨_, get?_update_seq ho (fun _ => #[])⟩
  have ho6 : (((s.heap.update a (Obj.mapSeq fun _ => #[])).push (seqObj "tuple" vs.toArray 0)).push (seqObj "list" #[] 0)).get? a = some (seqObj "list" #[] e1) := Heap.get?_push_of_some _ (Heap.get?_push_of_some _ ho1)
  have hlen : vs.toArray.size < 2 := by rw [List.size_toArray]; exact h2
  have hout : (vs.toArray.zip vs.toArray).map (·.2) = vs.toArray := by
    apply Array.toList_inj.mp
    simp [List.map_snd_zip]
  rw [list_sort_plain]
  refine wpAny_bind (listItems_at ho rfl ?_)
  refine wpAny_bind (listUpdate_at ho rfl ?_ (by rw [List.size_toArray, sizeLine_eq]; omega) (Nat.zero_le _))
  refine wpAny_bind (seqEpoch_at ho1 rfl ?_)
  refine wpAny_bind (wpAny_newTuple ?_ (by show vs.length ≤ _; rw [sizeLine_eq]; omega))
  refine wpAny_bind (wpAny_newList ?_ (Nat.zero_le _))
  refine wpAny_holding ?_
  show wpAny (model prog w) A _ P E { s with heap := ((s.heap.update a (Obj.mapSeq fun _ => (#[] : Array Value))).push (seqObj "tuple" vs.toArray 0)).push (seqObj "list" #[] 0) }
  dsimp only
  rw [if_pos hlen, if_pos hlen]
  refine wpAny_bind (wpAny_pure ?_)
  rw [StateT.run_pure]
  refine wpAny_bind (wpAny_pure ?_)
  dsimp only
  refine wpAny_bind (seqEpoch_at ho6 rfl ?_)
  have hz : ((arrOf (SortSt.mk' general' (vs.toArray.zip vs.toArray) #[] 7 none)).map (·.2)) = vs.toArray := hout
  rw [hz]
  refine wpAny_bind (listUpdate_at ho6 rfl ?_ (hsz2 := by rw [List.size_toArray, sizeLine_eq]; omega))
  simp only [bne_self_eq_false, Bool.false_eq_true, if_false]
  exact wpAny_pure h
theorem sorted_short {l : Addr} {vs : List Value} {Q : Value → Shared → Prop} (hl : s.heap.IsList l vs.toArray) (h2 : vs.length < 2)
    (h : Q (.ref (s.heap.objs.size + 1)) { s with heap := sortedAll s.heap vs vs.toArray }) : wpAny (model prog w) A (call (.builtin "sorted") [.ref l]) Q E s := by
  refine Calls.call_function_entry kind_sorted plain_sorted entry_sorted (args_sorted1 _) ?_
  unfold Builtin.«sorted»
  refine wpAny_bind (m := checkCount "sorted" 1 1 _) (wpAny_pure ?_)
  refine wpAny_bind (collect_list hl ?_ (by rw [sizeLine_eq]; omega))
  refine wpAny_bind (wpAny_newList ?_ (by rw [sizeLine_eq]; omega))
  have hsz : ((s.heap.push (seqObj "list" #[] 0)).update s.heap.objs.size (Obj.mapSeq (· ++ vs.toArray))).objs.size = s.heap.objs.size + 1 := by
    rw [Heap.size_update, size_push']
  have hoL : (((s.heap.push (seqObj "list" #[] 0)).update s.heap.objs.size (Obj.mapSeq (· ++ vs.toArray))).push (seqObj "list" vs.toArray 0)).get? (s.heap.objs.size + 1) = some (seqObj "list" vs.toArray 0) := by
    rw [← hsz]; exact Heap.get?_push_size _ rfl
  show wpAny _ _ _ _ _ { s with heap := ((s.heap.push (seqObj "list" #[] 0)).update s.heap.objs.size (Obj.mapSeq (· ++ vs.toArray))).push (seqObj "list" vs.toArray 0) }
  rw [hsz]
  refine wpAny_bind (wpAny_holding (wpAny_call_entry slot_list_sort ⟨_, hoL, rfl⟩ entry_list_sort (sort_short hoL h2 ⟨_, rfl, ?_⟩) (args_list_sort _)))
  exact wpAny_pure ⟨_, rfl, h⟩
end
section
variable {led led' : List (Addr × Obj)} {vs ws : List Value} {ps qs : List (Int × List Int)}
inductive PartAt (led : List (Addr × Obj)) (ps : List (Int × List Int)) (i : Nat) (v : Value) : Prop
  | mk (a : Addr) (t u : Tok) (x : Int) (arr : Array UInt8) (ks : List Int) (e : v = .ref a) (h1 : ps[i]? = some (x, ks)) (h2 : (a, tupO [.int x t, .bytes arr u]) ∈ led) (h3 : KBw.bInts arr = ks)
theorem PartsIn.at (h : PartsIn led vs ps) {i : Nat} {v : Value} (hv : vs[i]? = some v) : PartAt led ps i v := by
  induction h generalizing i with
  | nil => simp at hv
  | @cons a t u x arr ks vs ps hm e _ ih =>
    cases i with
    | zero => simp at hv; exact ⟨a, t, u, x, arr, ks, hv.symm, rfl, hm, e⟩
    | succ i => simp at hv; obtain ⟨a, t, u, x, arr, ks, e, h1, h2, h3⟩ := ih hv; exact ⟨a, t, u, x, arr, ks, e, by simpa using h1, h2, h3⟩
theorem PartsIn.refs (h : PartsIn led vs ps) : ∀ v ∈ vs, ∃ T, v = .ref T := fun v hv => by
  obtain ⟨i, hi⟩ := List.mem_iff_getElem?.mp hv
  obtain ⟨a, _, _, _, _, _, e, _⟩ := h.at hi
  exact ⟨a, e⟩
theorem PartsIn.pick (h : PartsIn led vs ps) : ∀ (l : List Nat), (∀ i ∈ l, i < ps.length) → PartsIn led (l.map fun i => vs.getD i Value.none) (l.map fun i => ps.getD i (0, []))
  | [], _ => .nil
  | i :: l, hl => by
    have hi : i < ps.length := hl i (.head _)
    have hv : i < vs.length := by rw [h.length]; exact hi
    obtain ⟨a, t, u, x, arr, ks, e, ep, hm, eb⟩ := h.at (i := i) (v := vs[i]) (by simp [hv])
    have e1 : vs.getD i Value.none = .ref a := by simp [hv, ← e]
    have e2 : ps.getD i (0, []) = (x, ks) := by simp [ep]
    rw [List.map_cons, List.map_cons, e1, e2]
    exact .cons hm eb (h.pick l fun j hj => hl j (.tail _ hj))
end
section
variable {prog : Program} {w : World} {A : Around} {E : Value → Shared → Prop} {s : Shared} {h₀ : Heap} {L : Addr} {m : PySem.Str → Option Value} {led led' : List (Addr × Obj)} {pvs : List Value} {parts : List (Int × List Int)}
theorem sorted_parts {l : Addr} {np : Nat} {Q : Value → Shared → Prop} (F : Fr h₀ L s.heap m) (N : News h₀ L s.heap led) (hm : (l, listOf pvs.toArray np) ∈ led) (hp : PartsIn led' pvs parts) (hs : ∀ p ∈ led', p ∈ led)
    (hd : (parts.map (·.1)).Nodup) (h64 : parts.length < 64)
    (h : ∀ D c h' ovs oparts, Fr h₀ L h' m → News h₀ L h' ((D, listOf (List.toArray ovs) c) :: led) → (∀ q ∈ led, @LT.lt Nat _ q.1 D) → PartsIn led ovs oparts → oparts.Perm parts → oparts.Pairwise (fun a b => a.1 < b.1) → Q (.ref D) { s with heap := h' }) :
    wpAny (model prog w) A (call (.builtin "sorted") [.ref l]) Q E s := by
  have hl : s.heap.IsList l pvs.toArray := ⟨_, (N _ hm).1, rfl, np, rfl⟩
  replace hp := hp.mono hs
  have hlen := hp.length
  by_cases h2 : pvs.length < 2
  · refine sorted_short hl h2 ?_
    obtain ⟨c, hc⟩ := sortedAll_at s.heap pvs pvs.toArray
    refine h _ c _ pvs parts (F.kept fun b o => sortedAll_old) (News.kept_cons F N (fun b o => sortedAll_old) (Nat.le_succ _) hc) (fun q hq => Nat.lt_succ_of_lt (Heap.lt_size (N q hq).1)) hp (List.Perm.refl _) ?_
    match parts, (show parts.length < 2 by omega) with
    | [], _ => exact .nil
    | [p], _ => exact List.pairwise_singleton _ _
  · have inj : ∀ i j, i < pvs.length → j < pvs.length → (fun i => (parts.getD i (0, [])).1) i = (fun i => (parts.getD i (0, [])).1) j → i = j := by
      intro i j hi hj e
      have hi' : i < parts.length := by omega
      have hj' : j < parts.length := by omega
      have pw := List.pairwise_iff_getElem.mp hd
      simp only [hi', hj', List.getD_eq_getElem?_getD, List.getElem?_eq_getElem, Option.getD_some] at e
      rcases Nat.lt_trichotomy i j with hlt | heq | hlt
      · exact absurd (by rw [List.getElem_map, List.getElem_map]; exact e) (pw i j (by simpa using hi') (by simpa using hj') hlt)
      · exact heq
      · exact absurd (by rw [List.getElem_map, List.getElem_map]; exact e.symm) (pw j i (by simpa using hj') (by simpa using hi') hlt)
    refine kat_sorted F N hl (by omega) (by omega) fun D e1 h' F' N' hD => ?_
    have tups : ∀ (vs : List Value) (ps : List (Int × List Int)), PartsIn led vs ps → ∃ fs, KatTups h' vs fs ∧ fs.length = ps.length ∧ ∀ v ∈ fs, ∃ n t, v = .int n t := by
      intro vs ps hp
      induction hp with
      | nil => exact ⟨[], .nil, rfl, fun _ h => nomatch h⟩
      | @cons a t u x arr ks vs ps hm e _ ih =>
        obtain ⟨fs, a1, a2, a3⟩ := ih
        refine ⟨.int x t :: fs, .cons (N'.get (.tail _ hm)) rfl rfl rfl a1, by simp [a2], fun v hv => ?_⟩
        rcases List.mem_cons.mp hv with rfl | hv
        · exact ⟨x, t, rfl⟩
        · exact a3 v hv
    obtain ⟨fs, t1, t2, t3⟩ := tups _ _ hp
    refine kat_kind (T := .type "int") t1 (by omega) (fun v hv => by obtain ⟨n, t, rfl⟩ := t3 v hv; exact Looks.of_pure rfl) rfl ?_
    refine kasP_wp (lt := klt fun i => (parts.getD i (0, [])).1) (N := pvs.length) (fun i j C hi hj hij hC => ?_) (G := fun p => GoodP pvs.length p ∧ SortTo (fun i => (parts.getD i (0, [])).1) p pvs.length) (fun p hp' => ?_) _ (sort_ok inj (by omega))
    · obtain ⟨a, ta, ua, xa, arr, ks, e, ep, hma, eb⟩ := hp.at (i := i) (v := pvs[i]) (by simp [hi])
      obtain ⟨a', ta', ua', xa', arr', ks', e', ep', hma', eb'⟩ := hp.at (i := j) (v := pvs[j]) (by simp [hj])
      unfold kas_ask
      have g1 : pvs.getD i Value.none = .ref a := by simp [hi, ← e]
      have g2 : pvs.getD j Value.none = .ref a' := by simp [hj, ← e']
      have k1 : parts.getD i (0, []) = (xa, ks) := by simp [ep]
      have k2 : parts.getD j (0, []) = (xa', ks') := by simp [ep']
      have hne : xa ≠ xa' := fun q => hij (inj i j hi hj (by show (parts.getD i (0, [])).1 = (parts.getD j (0, [])).1; rw [k1, k2]; exact q))
      have hC' : C (decide (xa < xa')) { s with heap := h' } := by
        have : klt (fun i => (parts.getD i (0, [])).1) i j = decide (xa < xa') := by show decide ((parts.getD i (0, [])).1 < (parts.getD j (0, [])).1) = _; rw [k1, k2]
        rw [this] at hC; exact hC
      rw [g1, g2]
      refine kat_lt (N'.get (.tail _ hma)) rfl (N'.get (.tail _ hma')) rfl ?_
      show KatLex prog w _ _ _ C [(.int xa ta, .int xa' ta'), (.bytes arr ua, .bytes arr' ua')] 0 _
      refine kat_cons (wpAny_eqBool_int ?_)
      rw [show (xa == xa') = false by simpa using hne]
      exact kat_no (oneLt_int hC')
    · refine KasFin.intro F' N' (UpdF.head (fun p hp => Nat.ne_of_lt (hD p hp))) fun h2 c F2 N2 => ?_
      refine h D c h2 _ _ F2 N2 hD (hp.pick p.toList fun i hi => ?_) ?_ ?_
      · have := List.mem_range.mp (hp'.1.2.mem_iff.mp hi); omega
      · have e : (List.range pvs.length).map (fun i => parts.getD i (0, [])) = parts := by
          rw [hlen]
          apply List.ext_getElem
          · simp
          · intro i h1 h2; simp at h1 ⊢; simp [h1]
        have := hp'.1.2.map (fun i => parts.getD i (0, []))
        rwa [e] at this
      · rw [List.pairwise_map]
        refine List.pairwise_iff_getElem.mpr fun i j hi hj hij => ?_
        have := hp'.2 i j hij (by have : p.toList.length = pvs.length := by simpa using hp'.1.1
                                  omega)
        unfold sq at this
        have hi2 : i < p.size := by simpa using hi
        have hj2 : j < p.size := by simpa using hj
        simpa [hi2, hj2] using this
end
end
/-! part: Join -/
section
namespace BJ
open PySem.Builtin
theorem slot_join : Slot "bytes" "join" "bytes.join" :=
  .of (owner := "bytes") (n := "join") (by rw [typeLookup_type, builtinLookup_eq_fast]; kernel_rfl) (by decide +kernel) (by decide +kernel) (by decide +kernel)
    (by first | exact .inl (by decide +kernel) | exact .inr (by decide +kernel)) (by rw [isSubtype_type]; kernel_rfl)
theorem entry_join : entryFor table "bytes.join" = some Builtin.«bytes.join» := entryFor_of_tree (by kernel_rfl)
theorem args_join (a b : Value) : argsOk "bytes.join" ⟨[a, b], []⟩ := by unfold argsOk; kernel_rfl
theorem type_join : typeOf (.builtin "bytes.join") = pure (.type "method_descriptor") := by kernel_rfl
end BJ
section
variable {prog : Program} {w : World} {A : Around} {E : Value → Shared → Prop} {s : Shared}
theorem forIn_nats {M : Model} {β : Type} {f : Nat → β → Sem (ForInStep β)} {Q : β → Shared → Prop} (I : List Nat → β → Shared → Prop)
    (step : ∀ x r b s, I (x :: r) b s → wpAny M A (f x b) (fun y s' => match y with | .yield b' => I r b' s' | .done b' => Q b' s') E s) (fin : ∀ b s, I [] b s → Q b s) :
    ∀ (l : List Nat) (b : β) (s : Shared), I l b s → wpAny M A (forIn l b f) Q E s
  | [], b, s, h => by rw [List.forIn_nil]; exact wpAny_pure (fin b s h)
  | x :: r, b, s, h => by
    rw [List.forIn_cons]
    refine wpAny_bind (wpAny_mono (step x r b s h) (fun y s' hy => ?_) fun _ _ e => e)
    cases y with
    | yield b' => exact forIn_nats I step fin r b' s' hy
    | done b' => exact wpAny_pure hy
def bArr : Value → Array UInt8
  | .bytes b _ => b
  | _ => #[]
theorem takeQ_eq {id : String} {b : Array UInt8} {u : Tok} : Builtin.Bytes.takeBufferQuiet? id (.bytes b u) 0 = pure (some (b, none)) := by
  unfold Builtin.Bytes.takeBufferQuiet? Builtin.Bytes.takeBuffer?
  rw [show ((0 : Int) == Builtin.Bytes.fullReadOnly) = false by rfl, KBy.special_eq KBy.look_buffer, KBy.own_buffer, KBy.buffer_eq]
  kernel_rfl
theorem letGo_join {M : Model} {Q : Unit → Shared → Prop} {keep : List Value} : ∀ (vs : List Value) (s : Shared), Q () s → wpAny M A (Builtin.Bytes.joinLetGo (vs.map fun v => (v, none)) keep) Q E s
  | [], s, h => wpAny_pure h
  | v :: vs, s, h => by
    rw [List.map_cons]
    unfold Builtin.Bytes.joinLetGo
    dsimp only
    exact wpAny_bind (wpAny_letGo (letGo_join vs s h))
theorem joined_go : ∀ (ps : List (Array UInt8)) (k : Nat) (acc : Array UInt8), KBw.bInts ((ps.zipIdx k).foldl (fun out (p, i) => (if i > 0 then out ++ (#[] : Array UInt8) else out) ++ p) acc) = KBw.bInts acc ++ (ps.map KBw.bInts).flatten
  | [], _, acc => by simp
  | p :: ps, k, acc => by
    rw [List.zipIdx_cons, List.foldl_cons, joined_go ps]
    have : (if k > 0 then acc ++ (#[] : Array UInt8) else acc) = acc := by split <;> simp
    simp only [this, KBw.ints_app rfl rfl, List.map_cons, List.flatten_cons, List.append_assoc]
theorem joined_ints (ps : List (Array UInt8)) : KBw.bInts (Builtin.Bytes.joined #[] ps) = (ps.map KBw.bInts).flatten := by
  unfold Builtin.Bytes.joined
  rw [joined_go]; rfl
theorem sizes_go : ∀ (l : List (Array UInt8)) (a : Nat), l.foldl (fun x y => x + y.size) a = a + (l.map KBw.bInts).flatten.length
  | [], a => by simp
  | p :: l, a => by
    rw [List.foldl_cons, sizes_go l, List.map_cons, List.flatten_cons, List.length_append, KBw.ints_length]; omega
theorem join_body {l : Addr} {vs : List Value} {n : Nat} {t : Tok} {P : PySem.Fin → Shared → Prop} (ho : s.heap.get? l = some (listOf vs.toArray n)) (hb : ∀ v ∈ vs, ∃ b u, v = .bytes b u)
    (hz : ((vs.map bArr).map KBw.bInts).flatten.length ≤ 16777216)
    (h : ∀ arr u tk, KBw.bInts arr = ((vs.map bArr).map KBw.bInts).flatten → P (.done (.ret (.bytes arr u))) { s with toks := tk }) :
    wpAny (model prog w) A (Builtin.«bytes.join» ⟨[.bytes #[] t, .ref l], []⟩) P E s := by
  unfold Builtin.«bytes.join» Builtin.Bytes.joinM
  dsimp only
  refine wpAny_bind (wpAny_of_eq (a := (Value.bytes #[] t, Value.ref l)) (by rfl) ?_)
  dsimp only
  rw [if_pos (by rfl)]
  refine wpAny_bind ?_
  unfold Builtin.Bytes.joinItems
  refine wpAny_bind (wpAny_typeOf (T := "list") ⟨_, ho, rfl⟩ ?_)
  rw [if_pos (by rfl)]
  refine wpAny_pure ?_
  have hseq : ∀ (Q : Option (Array Value) → Shared → Prop), Q (some vs.toArray) s → wpAny (model prog w) A (seqItems? (.ref l)) Q E s := by
    intro Q hq
    unfold seqItems?
    exact wpAny_bind (wpAny_load ho (wpAny_pure hq))
  refine wpAny_bind (hseq _ ?_)
  dsimp only
  rw [if_pos (by rfl)]
  by_cases h1 : ∃ v, vs = [v]
  · obtain ⟨v, rfl⟩ := h1
    obtain ⟨b, u, rfl⟩ := hb v (.head _)
    refine wpAny_bind (wpAny_typeOf (T := "bytes") (typeIs_bytes _ _ _) ?_)
    rw [if_pos (by rfl)]
    refine wpAny_bind (wpAny_rule (wpAny_pure ?_))
    have := h b u s.toks (by simp [bArr])
    exact this
  · have hgo : ∀ (f : Nat → Array (Array UInt8) × List (Value × Option Value) → Sem (ForInStep (Array (Array UInt8) × List (Value × Option Value)))) (K : Array (Array UInt8) × List (Value × Option Value) → Sem PySem.Fin),
        (∀ i st (Q : ForInStep (Array (Array UInt8) × List (Value × Option Value)) → Shared → Prop), i < vs.length → (∀ q ∈ st.2, ∃ b u, q.1 = .bytes b u) → Q (.yield (st.1.push (bArr (vs.getD i .none)), st.2 ++ [(vs.getD i .none, none)])) s → wpAny (model prog w) A (f i st) Q E s) →
        wpAny (model prog w) A (K ((vs.map bArr).toArray, vs.map fun v => (v, none))) P E s → wpAny (model prog w) A (forIn [0:vs.toArray.size] (#[], []) f >>= K) P E s := by
      intro f K hf hK
      refine wpAny_bind ?_
      rw [Std.Legacy.Range.forIn_eq_forIn_range']
      refine forIn_nats (fun rem st s' => s' = s ∧ ∃ i, i + rem.length = vs.length ∧ rem = List.range' i (vs.length - i) ∧ st = (((vs.take i).map bArr).toArray, (vs.take i).map fun v => (v, none))) ?_ ?_ _ _ _ ⟨rfl, 0, by simp [Std.Legacy.Range.size], by simp [Std.Legacy.Range.size], by simp⟩
      · rintro x r st s' ⟨rfl, i, e1, e2, rfl⟩
        have hi : i < vs.length := by simp only [List.length_cons] at e1; omega
        obtain ⟨k, hk⟩ : ∃ k, vs.length - i = k + 1 := ⟨vs.length - i - 1, by omega⟩
        rw [hk, List.range'_succ] at e2
        obtain ⟨rfl, rfl⟩ := List.cons.inj e2
        refine hf x _ _ hi (fun q hq => ?_) ⟨rfl, x + 1, by simp; omega, by congr 1; omega, ?_⟩
        · obtain ⟨v, hv, rfl⟩ := List.mem_map.mp hq
          exact hb v (List.mem_of_mem_take hv)
        · have : vs.take (x + 1) = vs.take x ++ [vs.getD x .none] := by rw [take_succ_of (x := vs[x]) (by simp [hi])]; simp [hi]
          rw [this]; simp
      · rintro st s' ⟨rfl, i, e1, e2, rfl⟩
        have : i = vs.length := by simpa using e1
        subst this
        rw [List.take_length]; exact hK
    have hm : ∀ {β : Type} (a : Value → β) (b : β), (match vs.toArray with | #[x] => a x | _ => b) = b := by
      intro β a b
      match vs, h1 with
      | [], _ => rfl
      | [v], h1 => exact absurd ⟨v, rfl⟩ h1
      | _ :: _ :: _, _ => rfl
    have go : ∀ (X : Value → Sem PySem.Fin) (Y : Sem PySem.Fin), wpAny (model prog w) A Y P E s → wpAny (model prog w) A (match vs.toArray with | #[x] => X x | _ => Y) P E s := fun X Y hY => by rw [hm]; exact hY
    refine go _ _ ?_
    refine hgo _ _ (fun i st Q hi hst hQ => ?_) ?_
    · obtain ⟨b, u, e⟩ := hb (vs.getD i .none) (by simp [hi])
      refine wpAny_bind (hseq _ ?_)
      dsimp only
      have hany : (st.2.any fun x => x.1.onHeap) = false := by
        rw [List.any_eq_false]
        intro q hq
        obtain ⟨b, u, e⟩ := hst q hq
        rw [e]; exact Bool.false_ne_true
      rw [if_neg (by rw [hany]; decide)]
      have hnow : (vs.toArray.getD i Value.none) = .bytes b u := by rw [← e]; simp
      rw [hnow]
      refine wpAny_bind (wpAny_holding (wpAny_of_eq takeQ_eq ?_))
      dsimp only
      refine wpAny_bind (hseq _ ?_)
      dsimp only
      rw [if_neg (by simp)]
      refine wpAny_pure ?_
      rw [e] at hQ
      exact hQ
    · dsimp only
      refine wpAny_bind (wpAny_pure ?_)
      have hsz : (Array.foldl (fun x1 x2 => x1 + x2.size) ((#[] : Array UInt8).size * ((List.map bArr vs).toArray.size - 1)) (List.map bArr vs).toArray) = ((vs.map bArr).map KBw.bInts).flatten.length := by
        rw [List.foldl_toArray', sizes_go]; simp
        simp
      rw [hsz, KBy.tooLong_not hz, if_neg Bool.false_ne_true]
      have hj := joined_ints (vs.map bArr)
      refine wpAny_bind (wpAny_mkBytes ?_ (by rw [← KBw.ints_length, hj, sizeLine_eq]; exact hz))
      refine wpAny_bind (wpAny_holding (wpAny_point ?_))
      refine wpAny_bind (letGo_join vs _ ?_)
      exact wpAny_pure (h _ _ _ hj)
end
section
variable {prog : Program} {w : World} {A : Around} {E : Value → Shared → Prop} {s : Shared}
theorem join_call {l : Addr} {vs : List Value} {n : Nat} {t : Tok} {Q : Value → Shared → Prop} (ho : s.heap.get? l = some (listOf vs.toArray n)) (hb : ∀ v ∈ vs, ∃ b u, v = .bytes b u)
    (hz : ((vs.map bArr).map KBw.bInts).flatten.length ≤ 16777216)
    (h : ∀ arr u tk, KBw.bInts arr = ((vs.map bArr).map KBw.bInts).flatten → Q (.bytes arr u) { s with toks := tk }) :
    wpAny (model prog w) A (call (.builtin "bytes.join") [.bytes #[] t, .ref l]) Q E s := by
  refine wpAny_call_entry BJ.slot_join (typeIs_bytes _ _ _) BJ.entry_join ?_ (BJ.args_join _ _)
  exact join_body ho hb hz fun arr u tk e => ⟨_, rfl, h arr u tk e⟩
theorem join_method {M : Model} {b : Array UInt8} {t : Tok} {pl : Sem Bool} {Q : Value × List Value → Shared → Prop} (h : Q (.builtin "bytes.join", [.bytes b t]) s) : wpAny M A (getMethod (.bytes b t) "join" pl) Q E s := by
  with_reducible exact KBd.method_of (.bytes b t) (typeIs_bytes _ _ _) BJ.slot_join BJ.type_join KBd.noRef h
end
end
/-! part: Octets -/
section
open PyProof.Rows.LCg PyProof.Rows.LCt PyProof.Rows.LCp
local macro_rules | `(tactic| walk_at "call builtin:sorted") => `(tactic| (k_here; (with_reducible show wpAny _ _ (call (Value.builtin _) [Value.ref _]) _ _ _); refine sorted_parts (by k_asm) (by k_asm) (by k_mem) (by assumption) (by repeat (first | exact sub_refl | refine sub_tail ?_)) (by assumption) (by assumption) ?_; intro D' c' h' ov' op' F' N' l1' hp' hperm' hpw'))
local macro_rules | `(tactic| walk_at "getMethod bytes") => `(tactic| (k_here; refine join_method ?_))
local macro_rules | `(tactic| walk_at "call builtin:bytes.join") => `(tactic| (k_here; refine hold ?_))
local macro_rules | `(tactic| walk_at "eval ListComp") => `(tactic| (k_here; refine hold ?_))
inductive OctPost (led : List (Addr × Obj)) (parts : List (Int × List Int)) (r : Value) (nx : List (Addr × Obj)) : Prop
  | mk (e : nx = led) (arr : Array UInt8) (t : Tok) (oparts : List (Int × List Int)) (e2 : r = .bytes arr t) (h1 : oparts.Perm parts) (h2 : oparts.Pairwise (fun a b => a.1 < b.1)) (h3 : KBw.bInts arr = (oparts.map (·.2)).flatten)
theorem octets_ctr {w : World} {mean : ExcName → Option Value} {mg mb : PySem.Str → Option Value} {x dx y pl : Addr} {od : Obj} {np : Nat} {led led' : List (Addr × Obj)} {endv fv : Value} {ahead size : Int}
   {pvs : List Value} {parts : List (Int × List Int)} (hx : (x, instObj 177 dx) ∈ led) (hdx : (dx, od) ∈ led) (hod : IsDgram od y pl endv ahead fv size) (hl : (pl, listOf pvs.toArray np) ∈ led) (hp : PartsIn led' pvs parts) (hs : ∀ p ∈ led', p ∈ led)
   (hnd : (parts.map (·.1)).Nodup) (h64 : parts.length < 64) (hz : (parts.map (·.2)).flatten.length < 1000) :
   Ctr w mean mg mb 167 [.ref x] led 4 32 (OctPost led parts) := by
  obtain ⟨g1, g2, g3, g4, g5, g6, g7, g8, k1, k2, k3, k4, k5, k6, k7, k8, bv, t2, t6, t8, rfl⟩ := hod
  replace hp := hp.mono hs
  unfold Ctr
  k_fill
  intro dp un gd cn cs ca ccd cl outer A₀ base h₀ L m s Q E B F X N T hk hd hu hret
  refine wpAny_call ?_
  k_dflt ktr_enter
  rename Fr _ _ _ _ => lF
  replace lF : Fr _ _ _ (fun y => List.lookup y [(Str.ofString "self", Value.ref x)]) := lF
  k_steps
  unfold Hold
  k_dflt (refine LCp.ListComp_P (F₀ := by k_asm) (by with_unfolding_all rfl) (by decide) (by rfl) (by decide) (by rfl) (by rfl) (by decide) ?_)
  k_steps
  rename_i D c h1 ov op F' N' l1 hp2 hperm hpw
  have hlen := hp2.length
  have hlen2 := hperm.length_eq
  refine LCp.SrcLP.ledger rfl F' N' (.head _) (by rw [List.size_toArray, sizeLine_eq]; omega) ?_
  intro g
  refine restP_ind (fun i ys news => news = (D, listOf (List.toArray ov) c) :: led ∧ (ys.map bArr).map KBw.bInts = (op.take i).map (·.2) ∧ ∀ v ∈ ys, ∃ b u, v = .bytes b u) ?turn ?done ⟨rfl, by simp, fun _ h => nomatch h⟩
  case turn =>
    rintro i ys news hi ⟨rfl, e1, e2⟩ v hP
    obtain ⟨a, ta, ua, xa, arr, ks, rfl, eop, hma, eb⟩ := hp2.at (i := i) (v := v) (by simpa using hP)
    refine ⟨a, _, _, _, _, rfl, .tail _ hma, rfl, rfl, ?_⟩
    intro I oI C oC D2 m₂ h tk E' hC hx2 hy2 F2 N2 off ne
    clear F' N'
    k_steps
    refine CompEnd.intro F2 N2 _ sub_refl off (.inr ⟨_, .head _, rfl, _, rfl⟩) ⟨rfl, ?_, ?_⟩
    · rw [take_succ_of eop]; simp only [List.map_append, e1, List.map_cons, List.map_nil, bArr, eb]
    · intro v hv
      rcases List.mem_append.mp hv with hv | hv
      · exact e2 v hv
      · exact ⟨_, _, List.mem_singleton.mp hv⟩
  case done =>
    rintro ys news ⟨rfl, e1, e2⟩
    unfold FinE
    intro D3 h3 tk3 F3 N3 o3
    have e3 : (ys.map bArr).map KBw.bInts = op.map (·.2) := by rw [e1, List.size_toArray, hlen, List.take_length]
    have e4 : (op.map (·.2)).flatten.length = (parts.map (·.2)).flatten.length := (hperm.map _).flatten.length_eq
    dsimp only
    clear F' N'
    k_steps
    unfold Hold
    refine join_call (vs := ys) (N3 _ (.head _)).1 e2 (by rw [e3]; omega) fun arr u tk e => ?_
    k_steps
    rename Fr h₀ L _ m => F5
    rename News h₀ L _ _ => N5
    exact hret _ _ _ _ F5 (fun p hp => N5 p (.tail _ (.tail _ hp))) ⟨rfl, arr, u, op, rfl, hperm, hpw, by rw [e, e3]⟩
end
/-! part: Told -/
section
local macro_rules | `(tactic| walk_at "call builtin:sorted") => `(tactic| (k_here; (with_reducible show wpAny _ _ (call (Value.builtin _) [Value.ref _]) _ _ _); refine sorted_parts (by k_asm) (by k_asm) (by k_mem) (by assumption) (by repeat (first | exact sub_refl | refine sub_tail ?_)) (by assumption) (by assumption) ?_; intro D' c' h' ov' op' F' N' l1' hp' hperm' hpw'))
def runF : List (Int × List Int) → List Int → List Int
  | [], acc => acc
  | (b, ks) :: r, acc => if b ≠ (acc.length : Int) then acc else runF r (acc ++ ks)
theorem take_clip8 (l : List Int) : l.take (clipAt l.length 8) = l.take 8 := by
  rw [show clipAt l.length 8 = min 8 l.length from clipAt_nat l.length 8]
  by_cases h : 8 ≤ l.length
  · rw [Nat.min_eq_left h]
  · rw [Nat.min_eq_right (by omega), List.take_length, List.take_of_length_le (by omega)]
inductive ToldPost (led : List (Addr × Obj)) (parts : List (Int × List Int)) (r : Value) (nx : List (Addr × Obj)) : Prop
  | mk (e : nx = led) (arr : Array UInt8) (t : Tok) (oparts : List (Int × List Int)) (e2 : r = .bytes arr t) (h1 : oparts.Perm parts) (h2 : oparts.Pairwise (fun a b => a.1 < b.1)) (h3 : KBw.bInts arr = (runF oparts []).take 8)
theorem told_ctr {w : World} {mean : ExcName → Option Value} {mg mb : PySem.Str → Option Value} {x dx y pl : Addr} {od : Obj} {np : Nat} {led led' : List (Addr × Obj)} {endv fv : Value} {ahead size : Int}
   {pvs : List Value} {parts : List (Int × List Int)} (hx : (x, instObj 177 dx) ∈ led) (hdx : (dx, od) ∈ led) (hod : IsDgram od y pl endv ahead fv size) (hl : (pl, listOf pvs.toArray np) ∈ led) (hp : PartsIn led' pvs parts) (hs : ∀ p ∈ led', p ∈ led)
   (hnd : (parts.map (·.1)).Nodup) (h64 : parts.length < 64) (hz : (parts.map (·.2)).flatten.length < 1000) :
   Ctr w mean mg mb 174 [.ref x] led 4 32 (ToldPost led parts) := by
  obtain ⟨g1, g2, g3, g4, g5, g6, g7, g8, k1, k2, k3, k4, k5, k6, k7, k8, bv, t2, t6, t8, rfl⟩ := hod
  replace hp := hp.mono hs
  unfold Ctr
  k_fill
  intro dp un gd cn cs ca ccd cl outer A₀ base h₀ L m s Q E B F X N T hk hd hu hret
  refine wpAny_call ?_
  k_dflt ktr_enter
  rename Fr _ _ _ _ => lF
  replace lF : Fr _ _ _ (fun y => List.lookup y [(Str.ofString "self", Value.ref x)]) := lF
  k_steps
  rename_i D c h1 ov op F' N' l1 hp2 hperm hpw
  obtain ⟨tf, F2⟩ : ∃ tf, Fr _ _ h1 (fun y => if y = Str.ofString "found" then some (Value.bytes #[] tf) else List.lookup y [(Str.ofString "self", Value.ref x)]) := ⟨_, F'⟩
  clear F'
  have htot : (op.map (·.2)).flatten.length < 1000 := by rw [(hperm.map _).flatten.length_eq]; exact hz
  refine loop_list (vs := ov) (c := c) (fun i m' nx => (∀ z, [Str.ofString "found", Str.ofString "begin", Str.ofString "part"].contains z = false → m' z = List.lookup z [(Str.ofString "self", Value.ref x)]) ∧
      (Ex3 fun arr t ka => An4 (m' (Str.ofString "found") = some (.bytes arr t)) (KBw.bInts arr = ka) (runF (op.drop i) ka = runF op []) (ka.length + ((op.drop i).map (·.2)).flatten.length < 1000)) ∧ nx = (D, listOf (List.toArray ov) c) :: led)
    rfl (by passes_own) F2 N' ?hl ?j0 (go_tuple hp2.refs) ?turn ?done
  case hl => rintro i m' nx ⟨-, -, rfl⟩; exact .head _
  case j0 =>
    refine ⟨fun z hz => ?_, ⟨#[], tf, [], rfl, rfl, rfl, by simpa using htot⟩, rfl⟩
    repeat (first | refine if_off hz rfl ?_ | exact rfl)
  case turn =>
    rintro i v m₁ nx h tk I oI R9 K9 hv ⟨hm, ⟨arr, ta, ka, hfo, hka, hrun, hle⟩, rfl⟩ hI F3 N3
    obtain ⟨a, tb, ub, xa, ar2, ks, rfl, eop, hma, eb⟩ := hp2.at hv
    have hd2 : op.drop i = (xa, ks) :: op.drop (i + 1) := by
      have hi : i < op.length := (List.getElem?_eq_some_iff.mp eop).1
      rw [List.drop_eq_getElem_cons hi]; congr 1; exact (List.getElem?_eq_some_iff.mp eop).2
    rw [hd2] at hrun hle
    simp only [List.map_cons, List.flatten_cons, List.length_append] at hle
    have hka1 : ka.length ≤ 1000 := by omega
    have hks1 : ks.length ≤ 1000 := by omega
    have F4 := (Fr.only [Str.ofString "found", Str.ofString "begin", Str.ofString "part"] F3 hm).known0 (n := Str.ofString "found") (w := .bytes arr ta) (by rw [if_pos (by rfl)]; exact hfo)
    clear F3 F2 N'
    have hma' : (a, tupO [.int xa tb, .bytes ar2 ub]) ∈ led := hma
    k_steps
    · rename_i hne
      refine K9.brk ?_
      dsimp only
      k_steps
      rename_i kb _ _ _ _
      rename Fr h₀ L _ m => F5
      rename News h₀ L _ _ => N5
      exact hret _ _ _ _ F5 (fun p hp => N5 p (.tail _ (.tail _ hp))) ⟨rfl, _, _, op, rfl, hperm, hpw, by rw [kb, take_clip8, ← hrun, runF, if_pos hne]⟩
    · rename_i hne t9 k9 happ h8 F' N'
      refine K9.next F' N' sub_refl (cons_ne (fun e => hI (D, _) (.head _) e) fun p hp => hI p (.tail _ hp)) ⟨?_, ⟨_, _, _, rfl, happ, ?_, ?_⟩, rfl⟩
      · intro z hz; repeat (first | refine if_off hz rfl ?_ | refine if_offL hz ?_ | exact rfl)
      · rw [runF, if_neg (by rw [hne]; exact fun h => h rfl)] at hrun; exact hrun
      · rw [List.length_append]; omega
  case done =>
    rintro m₁ nx h tk ⟨hm, ⟨arr, ta, ka, hfo, hka, hrun, hle⟩, rfl⟩ F3 N3
    have F4 := (Fr.only [Str.ofString "found", Str.ofString "begin", Str.ofString "part"] F3 hm).known0 (n := Str.ofString "found") (w := .bytes arr ta) (by rw [if_pos (by rfl)]; exact hfo)
    clear F3 F2 N'
    rw [hp2.length, List.drop_length] at hrun hle
    have hka1 : ka.length ≤ 1000 := by omega
    k_steps
    rename_i kb _ _ _ _
    rename Fr h₀ L _ m => F5
    rename News h₀ L _ _ => N5
    exact hret _ _ _ _ F5 (fun p hp => N5 p (.tail _ hp)) ⟨rfl, _, _, op, rfl, hperm, hpw, by rw [kb, take_clip8, ← hrun, runF]⟩
end
/-! part: CompD -/
section
open PyProof.Rows.LCg PyProof.Rows.LCt PyProof.Rows.LCp
section
variable {prog : Program} {w : World} {A : Around} {E : Value → Shared → Prop} {s : Shared} {h₀ : Heap} {L : Addr} {m : PySem.Str → Option Value} {env : Env} {K : Type} [DecidableEq K] {knd : PySem.KeyKind prog w K}
def SrcDT (knd : PySem.KeyKind prog w K) (A : Around) (h₀ : Heap) (L : Addr) (m : PySem.Str → Option Value) (env : Env) (ct elt : PySem.Expr) (x : PySem.Str) (scope : Scope) (cl : List (PySem.Str × Addr)) (Fin : Shared → List Value → List (Addr × Obj) → Prop) (xv : Value) (s₁ : Shared) : Prop :=
  ∃ d od kvs news, xv = .ref d ∧ A.handled = none ∧ Fr h₀ L s₁.heap m ∧ News h₀ L s₁.heap news ∧ (d, od) ∈ news ∧ Obj.IsDictOf knd od kvs ∧ (d == sysModules) = false ∧ kvs.length ≤ sizeLine ∧
    ∀ s₂ : Shared, (∃ h, s₂ = { s₁ with heap := h }) → CompRestT prog w A h₀ L m env ct elt x scope cl s₂ (fun nw => (d, od) ∈ nw) (fun i v => ∃ k x, kvs[i]? = some (k, x) ∧ knd.is k v = true) (Fin s₂) kvs.length 0 [] news
def SrcDU (knd : PySem.KeyKind prog w K) (A : Around) (h₀ : Heap) (L : Addr) (m : PySem.Str → Option Value) (env : Env) (elt : PySem.Expr) (x : PySem.Str) (scope : Scope) (cl : List (PySem.Str × Addr)) (Fin : Shared → List Value → List (Addr × Obj) → Prop) (xv : Value) (s₁ : Shared) : Prop :=
  ∃ d od kvs news, xv = .ref d ∧ A.handled = none ∧ Fr h₀ L s₁.heap m ∧ News h₀ L s₁.heap news ∧ (d, od) ∈ news ∧ Obj.IsDictOf knd od kvs ∧ (d == sysModules) = false ∧ kvs.length ≤ sizeLine ∧
    ∀ s₂ : Shared, (∃ h, s₂ = { s₁ with heap := h }) → CompRest prog w A h₀ L m env elt x scope cl s₂ (fun nw => (d, od) ∈ nw) (fun i v => ∃ k x, kvs[i]? = some (k, x) ∧ knd.is k v = true) (Fin s₂) kvs.length 0 [] news
theorem dictAt_of {h : Heap} {d : Addr} {od : Obj} {kvs : List (K × Value)} (e : h.get? d = some od) (hd : Obj.IsDictOf knd od kvs) : ∃ ep, ∀ h' : Heap, h'.get? d = some od → h'.DictAt knd d kvs ep := by
  obtain ⟨es, ep, a, b, c, p, n⟩ := hd
  exact ⟨ep, fun h' e' => ⟨od, es, e', a, b, c, p, n⟩⟩
theorem ListComp_TD {ct elt iter : PySem.Expr} {x : PySem.Str} {px : Pos} {scope : Scope} {cl : List (PySem.Str × Addr)} {pos : Pos} {Q : Value → Shared → Prop} (F₀ : Fr h₀ L s.heap m)
    (hclos : closureFor scope env = pure cl) (hcell : ∀ y ∈ scope.names, y.2 ≠ .cell) (hkind : scope.kind = .function)
    (hnames : ∀ y ∈ scope.names, y.2 = .local → scope.names.lookup y.1 = some .local) (hx : scope.names.lookup x = some .local)
    (h : wpAny (model prog w) A (eval iter env) (SrcDT knd A h₀ L m env ct elt x scope cl (fun s₂ => FinE h₀ L m s₂ Q)) E s)
    (hs : ∀ x, foldedSetIterable iter env x = pure x := by intro _; rfl) :
    wpAny (model prog w) A (eval (.ListComp elt [⟨.Name x px, iter, [ct], 0⟩] scope pos) env) Q E s := by
  rw [eval_ListComp]
  refine wpAny_comprehension_free (use := none) rfl hs hclos hkind hnames (wpAny_mono h (fun xv s₁ h₁ => ?_) fun _ _ e => e)
  obtain ⟨d, od, kvs, news, rfl, hh, F, N, hm, hd, hsys, hsz, R⟩ := h₁
  have hod := (N _ hm).1
  have hlt : d < s₁.heap.objs.size := Heap.lt_size hod
  obtain ⟨ep, hat⟩ := dictAt_of (knd := knd) hod hd
  refine wpAny_pyIter_dict hsys (hat _ hod) ?_
  have up : ∀ b o, s₁.heap.get? b = some o → (s₁.heap.push { cls := .type "dict_keyiterator", data := .fields #[.ref d, .int 0 0, .int kvs.length 0, .int ep 0] }).get? b = some o := fun b o e => Heap.get?_push_of_some _ e
  refine block_T (Walks.dictKeys (knd := knd) hh s₁.heap.objs.size d (Nat.ne_of_lt hlt) kvs ep) hsz (fun i h st => by obtain ⟨o, e, _⟩ := st.1; exact ⟨o, e⟩)
    (fun i h h' o nw st e e' _ N' S => ⟨by obtain ⟨o', q, r⟩ := st.1; rw [e] at q; cases q; exact ⟨o, e', r⟩, hat h' (N' _ S).1⟩) hcell hkind hx ⟨⟨_, Heap.get?_push_size _ rfl, rfl, rfl⟩, hat _ (up _ _ hod)⟩ (fun b hb => ?_)
    (F.keeps up) (N.grown up) (Nat.ne_of_lt F.ns.lt) (next_is_new F) (fun p hp => Nat.ne_of_lt (Heap.lt_size (N p hp).1)) hm (R _ ⟨_, rfl⟩) ?_
  · show b < (s₁.heap.push _).objs.size
    rw [Heap.size_push]
    rcases List.mem_cons.mp hb with rfl | hb
    · exact Nat.lt_succ_self _
    · rw [List.mem_singleton.mp hb]; exact Nat.lt_succ_of_lt hlt
  · intro D C h tk m' ys news' F' N' o1 hn hC₀ hD₀ hCL hDL hCD offC fin
    refine ⟨m', hn, fun h'' hs'' => fin D h'' tk (F'.change hs'' hCL hC₀) (fun p hp => ?_) o1⟩
    refine ⟨hs''.extBut _ _ ?_ (N' p hp).1, (N' p hp).2⟩
    rcases List.mem_cons.mp hp with rfl | hp
    · exact Ne.symm hCD
    · exact offC p hp
/-- a dict of ints at int keys -/
inductive KvIs : List (Int × Value) → List (Int × Int) → Prop where
  | nil : KvIs [] []
  | cons {k v : Int} {t : Tok} {kvs : List (Int × Value)} {ps : List (Int × Int)} : KvIs kvs ps → KvIs ((k, .int v t) :: kvs) ((k, v) :: ps)
theorem KvIs.length {kvs : List (Int × Value)} {ps : List (Int × Int)} (h : KvIs kvs ps) : kvs.length = ps.length := by
  induction h with
  | nil => rfl
  | cons _ ih => simp [ih]
theorem KvIs.at {kvs : List (Int × Value)} {ps : List (Int × Int)} (h : KvIs kvs ps) {i : Nat} {k : Int} {x : Value} (hx : kvs[i]? = some (k, x)) : ∃ v, ps[i]? = some (k, v) ∧ ∃ t, x = .int v t := by
  induction h generalizing i with
  | nil => simp at hx
  | @cons k' v t kvs ps _ ih =>
    cases i with
    | zero => simp at hx; exact ⟨v, by simp [hx.1], t, hx.2.symm⟩
    | succ i => simp at hx; simpa using ih hx
theorem KvIs.keys {kvs : List (Int × Value)} {ps : List (Int × Int)} (h : KvIs kvs ps) : kvs.map (·.1) = ps.map (·.1) := by
  induction h with
  | nil => rfl
  | cons _ ih => simp [ih]
def RecKvs (oc : Addr) (ev av fv : Value) : List (PySem.Str × Value) := [(Str.ofString "octets", .ref oc), (Str.ofString "end", ev), (Str.ofString "ahead", av), (Str.ofString "first", fv)]
end
end
/-! part: Denied -/
section
open PyProof.Rows.LCg PyProof.Rows.LCt PyProof.Rows.LCp
local macro_rules | `(tactic| walk_at "eval ListComp") => `(tactic| (k_here; refine hold ?_))
local macro_rules | `(tactic| walk_at "compareOp NotEq ref ref") => `(tactic| (k_here; refine ne_nil_list (News.isList (by k_asm) (by k_mem)) (News.isList (by k_asm) (by k_mem)) (by ktr_units) ?_))
def deniedF (told : List (Int × Int)) (fin : Option Int) (ahead e : Int) (more : Bool) : Bool :=
  if e > 64 then true else if more then (match fin with | none => false | some f => decide (e ≥ f)) else match fin with | some f => !decide (e = f) | none => told.any (fun p => decide (e ≤ p.1)) || (decide (e > 0) && decide (ahead ≥ e))
theorem denied_ctr {w : World} {mean : ExcName → Option Value} {mg mb : PySem.Str → Option Value} {rc oc : Addr} {ro oo : Obj} {led : List (Addr × Obj)} {ev fv bv : Value} {fin : Option Int} {ahead e : Int} {te ta : Tok} {more : Bool} {kvs : List (Int × Value)} {told : List (Int × Int)}
   (hrc : (rc, ro) ∈ led) (hro : Obj.IsDictOf (PySem.strKind PySem.Challenge.rw_on0344_01.row.prog w) ro [(Str.ofString "octets", .ref oc), (Str.ofString "end", ev), (Str.ofString "ahead", .int ahead ta), (Str.ofString "first", fv)]) (hf : IsOpt ev fin)
   (hoc : (oc, oo) ∈ led) (hoo : Obj.IsDictOf (PySem.intKind PySem.Challenge.rw_on0344_01.row.prog w) oo kvs) (hkv : KvIs kvs told) (hs1 : (rc == sysModules) = false) (hs2 : (oc == sysModules) = false) (hn : told.length < 1000) :
   Ctr w mean mg mb 297 [.ref rc, bv, .int e te, .bool more] led 4 32 (fun r nx => nx = led ∧ r = .bool (deniedF told fin ahead e more)) := by
  unfold Ctr
  k_fill
  intro dp un gd cn cs ca ccd cl outer A₀ base h₀ L m s Q E B F X N T hk hd hu hret
  cases fin with
  | none =>
    obtain rfl : ev = .none := hf
    cases more
    · (refine wpAny_call ?_; k_dflt (refine' code_defC ?k1 ?k2 ?k3 ?k4 ?k5 ?kA ?kF ?kK ?k6 ?k7 ?k8 ?k9 ?kB ?kD ?_ ?c2 ?c3 ?c4; (case kA => exact rfl); (case kF => exact rfl); (case kK => assumption); (case k1 => k_asm); (case k2 => k_asm); (case k3 => k_asm); (case k4 => k_asm); (case k5 => k_asm); (case k6 => k_is); (case k7 => k_is); (case k8 => ktr_room); (case k9 => exact BindsTo.of_eq rfl); (case kB => exact rfl); (case kD => decide +kernel); (case c2 => exact rfl); (case c3 => exact rfl); (case c4 => exact rfl); k_whole; intro g' L' h' tk' cells' FG F1 N1 Y1 B1 X1 T1 l1; (try k_lt l1); k_cells Y1; (try simp only [List.cons_append, List.nil_append] at N1); (try dsimp only); (try k_fold)))
      rename_i oE dE
      replace dE : oE.data = .cell (some (.int e te)) := dE
      k_steps
      · rename News h₀ L _ _ => N'
        rename Fr h₀ L _ m => F'
        exact hret _ _ _ _ F' (fun p hp => N' p (.tail _ hp)) ⟨rfl, congrArg Value.bool (by rw [deniedF, if_pos (by assumption)])⟩
      · rename_i he _
        unfold Hold
        k_dflt (refine ListComp_TD (knd := PySem.intKind _ w) (F₀ := by k_asm) (by with_unfolding_all rfl) (by decide) (by rfl) (by decide) (by rfl) ?_)
        k_steps
        have hk1 := hkv.length
        refine ⟨oc, oo, kvs, _, rfl, rfl, by k_asm, N1, .tail _ hoc, hoo, hs2, by rw [sizeLine_eq]; omega, ?_⟩
        rintro s₂ ⟨g, rfl⟩
        refine restT_ind (fun i ys news => news = (L' + 1, oE) :: led ∧ ys.isEmpty = !((told.take i).any (fun p => decide (e ≤ p.1)))) ?turn ?done ⟨rfl, rfl⟩
        case turn =>
          rintro i ys news hi ⟨rfl, e1⟩ v I oI C oC D m₂ h tk E' ⟨k, vx, hkx, hki⟩ hC hx F2 N2 off ne
          obtain ⟨tk9, rfl⟩ := Value.isInt_shape hki
          obtain ⟨v9, hv9⟩ := hkv.at hkx
          k_steps
          · rename_i hek
            refine CompEnd.intro F2 N2 _ sub_refl off (.tail _ hoc) ⟨rfl, ?_⟩
            rw [take_succ_of hv9.1]; simp [hek]
          · rename_i hek
            refine CompEnd.intro F2 N2 _ sub_refl off (.tail _ hoc) ⟨rfl, ?_⟩
            rw [take_succ_of hv9.1, e1]; simp [hek]
        case done =>
          rintro ys news ⟨rfl, e1⟩
          unfold FinE
          intro D3 h3 tk3 F3 N3 o3
          rw [hk1, List.take_length] at e1
          have e2 : told.any (fun p => decide (e ≤ p.1)) = !ys.isEmpty := by rw [e1]; simp
          dsimp only
          k_steps
          all_goals rename News h₀ L _ _ => N'
          all_goals rename Fr h₀ L _ m => F'
          all_goals refine hret _ _ _ _ F' (fun p hp => N' p (by first | exact .tail _ (.tail _ (.tail _ hp)) | exact .tail _ (.tail _ hp))) ⟨rfl, congrArg Value.bool ?_⟩
          all_goals (rw [deniedF, if_neg he]; simp only [Bool.false_eq_true, if_false, e2])
          all_goals (first | (simp_all; done) | (simp_all; omega))
    · (refine wpAny_call ?_; k_dflt (refine' code_defC ?k1 ?k2 ?k3 ?k4 ?k5 ?kA ?kF ?kK ?k6 ?k7 ?k8 ?k9 ?kB ?kD ?_ ?c2 ?c3 ?c4; (case kA => exact rfl); (case kF => exact rfl); (case kK => assumption); (case k1 => k_asm); (case k2 => k_asm); (case k3 => k_asm); (case k4 => k_asm); (case k5 => k_asm); (case k6 => k_is); (case k7 => k_is); (case k8 => ktr_room); (case k9 => exact BindsTo.of_eq rfl); (case kB => exact rfl); (case kD => decide +kernel); (case c2 => exact rfl); (case c3 => exact rfl); (case c4 => exact rfl); k_whole; intro g' L' h' tk' cells' FG F1 N1 Y1 B1 X1 T1 l1; (try k_lt l1); k_cells Y1; (try simp only [List.cons_append, List.nil_append] at N1); (try dsimp only); (try k_fold)))
      k_steps
      all_goals rename News h₀ L _ _ => N'
      all_goals rename Fr h₀ L _ m => F'
      all_goals refine hret _ _ _ _ F' (fun p hp => N' p (.tail _ hp)) ⟨rfl, congrArg Value.bool ?_⟩
      all_goals (rw [deniedF]; simp_all)
  | some f =>
    obtain ⟨tf, rfl⟩ : ∃ t, ev = .int f t := hf
    cases more
    all_goals (refine wpAny_call ?_; k_dflt (refine' code_defC ?k1 ?k2 ?k3 ?k4 ?k5 ?kA ?kF ?kK ?k6 ?k7 ?k8 ?k9 ?kB ?kD ?_ ?c2 ?c3 ?c4; (case kA => exact rfl); (case kF => exact rfl); (case kK => assumption); (case k1 => k_asm); (case k2 => k_asm); (case k3 => k_asm); (case k4 => k_asm); (case k5 => k_asm); (case k6 => k_is); (case k7 => k_is); (case k8 => ktr_room); (case k9 => exact BindsTo.of_eq rfl); (case kB => exact rfl); (case kD => decide +kernel); (case c2 => exact rfl); (case c3 => exact rfl); (case c4 => exact rfl); k_whole; intro g' L' h' tk' cells' FG F1 N1 Y1 B1 X1 T1 l1; (try k_lt l1); k_cells Y1; (try simp only [List.cons_append, List.nil_append] at N1); (try dsimp only); (try k_fold)))
    all_goals k_steps
    all_goals rename News h₀ L _ _ => N'
    all_goals rename Fr h₀ L _ m => F'
    all_goals refine hret _ _ _ _ F' (fun p hp => N' p (.tail _ hp)) ⟨rfl, congrArg Value.bool ?_⟩
    all_goals clear F N B X T hret hk hd hu
    all_goals unfold deniedF
    all_goals split
    all_goals (first | rfl | (exfalso; omega) | (rw [Bool.eq_iff_iff]; simp only [Bool.false_eq_true, if_false, if_true, Bool.or_eq_true, Bool.and_eq_true, decide_eq_true_eq, bne_iff_ne, ne_eq, Bool.not_eq_true', decide_eq_false_iff_not, gt_iff_lt, ge_iff_le]; first | done | omega | (simp only [true_iff, false_iff, Bool.false_eq_true]; omega)))
end
/-! part: Whole -/
section
theorem dwhole_ctr {w : World} {mean : ExcName → Option Value} {mg mb : PySem.Str → Option Value} {x dx y dy rl pl : Addr} {od oy : Obj} {nr : Nat} {led led' : List (Addr × Obj)} {endv fv : Value} {fin : Option Int} {fst : Option Addr} {ahead size : Int}
   {rowVals : List Value} {rows : List (Int × Int)} (hx : (x, instObj 177 dx) ∈ led) (hdx : (dx, od) ∈ led) (hod : IsDgram od y pl endv ahead fv size) (hf : IsOpt endv fin) (hg : IsRefOpt fv fst) (hy : (y, instObj 123 dy) ∈ led) (hdy : (dy, oy) ∈ led) (hoy : IsHoles oy 64 rl) (hl : (rl, listOf rowVals.toArray nr) ∈ led) (hp : PairsIn led' rowVals rows) :
   Ctr w mean mg mb 162 [.ref x] led 4 32 (fun r nx => nx = led ∧ r = .bool (fin.isSome && fst.isSome && rows.isEmpty)) := by
  obtain ⟨g1, g2, g3, g4, g5, g6, g7, g8, k1, k2, k3, k4, k5, k6, k7, k8, bv, t2, t6, t8, rfl⟩ := hod
  obtain ⟨q1, q2, q3, q4, q5, rfl⟩ := hoy
  have he : rowVals.isEmpty = rows.isEmpty := by
    have := hp.length
    cases rowVals <;> cases rows <;> simp_all
  unfold Ctr
  k_fill
  intro dp un gd cn cs ca ccd cl outer A₀ base h₀ L m s Q E B F X N T hk hd hu hret
  cases fin with
  | none =>
    obtain rfl : endv = .none := hf
    refine wpAny_call ?_
    k_dflt ktr_enter
    k_steps
    rename News h₀ L _ _ => N'
    exact hret _ _ _ _ (by assumption) N' ⟨rfl, rfl⟩
  | some f =>
    obtain ⟨tf, rfl⟩ : ∃ t, endv = .int f t := hf
    cases fst with
    | none =>
      obtain rfl : fv = .none := hg
      refine wpAny_call ?_
      k_dflt ktr_enter
      k_steps
      rename News h₀ L _ _ => N'
      exact hret _ _ _ _ (by assumption) N' ⟨rfl, rfl⟩
    | some fa =>
      obtain rfl : fv = .ref fa := hg
      refine wpAny_call ?_
      k_dflt ktr_enter
      k_steps
      unfold Hold
      refine Ctr.use (by k_asm) (by k_asm) (whole_ctr (led' := []) hy hdy ⟨_, _, _, _, _, rfl⟩ hl) sub_refl (by k_asm) (by k_asm) (by k_asm) (by first | assumption | exact rfl) (by ktr_room) (by ktr_units) ?_
      rintro r8 h8 tk8 nx8 F8 N8 ⟨rfl, rfl⟩
      dsimp only
      k_steps
      rename News h₀ L _ _ => N'
      exact hret _ _ _ _ (by assumption) N' ⟨rfl, by rw [he]; rfl⟩
end
/-! part: EnumB -/
section
section
open Builtin
variable {prog : Program} {w : World} {A : Around} {E : Value → Shared → Prop} {s : Shared} {b : Array UInt8} {t : Tok}
theorem nextOf_bytes_item {it : Addr} {i : Nat} {c : UInt8} {Q : Value → Shared → Prop} (hit : KBw.IsBytesIter s.heap it b t i) (hx : b[i]? = some c)
    (hQ : ∀ h', KBw.IsBytesIter h' it b t (i + 1) → Heap.SameBut it s.heap h' → Q (.int (c.toNat : Int) s.toks) { s with heap := h', toks := s.toks + 1 }) :
    wpAny (model prog w) A (Builtin.SmallTypes.nextOf (.ref it)) Q E s := by
  obtain ⟨o, ho, hc, hd⟩ := id hit
  unfold Builtin.SmallTypes.nextOf
  refine wpAny_bind (wpAny_callSpecial?_slot (name := PySem.Str.ofString "__next__") (KBw.iter_typeIs hit) KBw.slot_next
    (wpAny_call_entry KBw.slot_next (KBw.iter_typeIs hit) KBw.entry_next ?_ (KBw.args_next _)))
  show wpAny _ _ (field (.ref it) 0 >>= _) _ _ s
  refine wpAny_bind (wpAny_field ho hd (x := .bytes b t) rfl ?_)
  show wpAny _ _ (if (Value.bytes b t == Value.none) = true then _ else _) _ _ s
  rw [if_neg (show ¬ ((Value.bytes b t == Value.none) = true) from Bool.false_ne_true)]
  show wpAny _ _ (field (.ref it) 1 >>= _) _ _ s
  refine wpAny_bind (wpAny_field ho hd (x := .int i 0) rfl ?_)
  refine wpAny_bind (wpAny_of_eq (a := b) rfl ?_)
  simp only [Int.toNat_natCast, hx]
  refine wpAny_bind (wpAny_setField ho hd (by simp) (wpAny_bind (wpAny_mkInt (wpAny_pure ⟨_, rfl, wpAny_pure (hQ _ ?_ (Heap.SameBut.update ..))⟩))))
  exact ⟨_, Heap.get?_update_self _ ho (Obj.isFreed_of_fields (Obj.data_mapFields hd _)), (Obj.cls_mapFields ..).trans hc, by
    rw [Obj.data_mapFields hd]; simp [rawInt]⟩
theorem nextOf_bytes_end {it : Addr} {i : Nat} {Q : Value → Shared → Prop} (hh : A.handled = none) (hit : KBw.IsBytesIter s.heap it b t i) (hx : b[i]? = none)
    (hE : ∀ h' e, Heap.ExtBut it s.heap h' → (∃ o, h'.get? e = some o ∧ o.cls = .type "StopIteration") → E (.ref e) { s with heap := h' }) :
    wpAny (model prog w) A (Builtin.SmallTypes.nextOf (.ref it)) Q E s := by
  obtain ⟨o, ho, hc, hd⟩ := id hit
  unfold Builtin.SmallTypes.nextOf
  refine wpAny_bind (wpAny_callSpecial?_slot (name := PySem.Str.ofString "__next__") (KBw.iter_typeIs hit) KBw.slot_next
    (wpAny_call_entry KBw.slot_next (KBw.iter_typeIs hit) KBw.entry_next ?_ (KBw.args_next _)))
  show wpAny _ _ (field (.ref it) 0 >>= _) _ _ s
  refine wpAny_bind (wpAny_field ho hd (x := .bytes b t) rfl ?_)
  show wpAny _ _ (if (Value.bytes b t == Value.none) = true then _ else _) _ _ s
  rw [if_neg (show ¬ ((Value.bytes b t == Value.none) = true) from Bool.false_ne_true)]
  show wpAny _ _ (field (.ref it) 1 >>= _) _ _ s
  refine wpAny_bind (wpAny_field ho hd (x := .int i 0) rfl ?_)
  refine wpAny_bind (wpAny_of_eq (a := b) rfl ?_)
  simp only [Int.toNat_natCast, hx]
  refine wpAny_bind (wpAny_rule (wpAny_bind (wpAny_setField ho hd (by simp) ?_)))
  show wpAny _ _ (newExc (.type "StopIteration") [] >>= _) _ _ _
  refine wpAny_bind ?_
  simp only [newExc, newTuple]
  refine wpAny_bind (wpAny_newObj_type ?_ (by size_fits))
  refine wpAny_bind (m := firstArgMember _ _) (wpAny_of_eq (a := Value.none) (by first | rfl | (simp only [firstArgMember]; rfl)) ?_)
  refine wpAny_newObj_type ?_ (by size_fits)
  simp only [raiseNew]
  refine wpAny_bind (wpAny_handled ?_)
  first | rw [show A.in1.handled = none from hh] | rw [hh]
  refine wpAny_bind (wpAny_pure (wpAny_throw ?_))
  exact hE _ _ (((Heap.SameBut.update ..).extBut.push _).push _) ⟨_, Heap.get?_push_size _ rfl, rfl⟩
theorem draws_bytes (hh : A.handled = none) (it : Addr) (b : Array UInt8) (t : Tok) :
    Draws prog w A it [it] b.size (fun i v => ∃ c u, b[i]? = some c ∧ v = .int (c.toNat : Int) u) (fun i h => KBw.IsBytesIter h it b t i) where
  live := fun _ _ st => let ⟨o, ho, _⟩ := st; ⟨o, ho⟩
  frame := fun _ _ _ st hk => let ⟨o, ho, r⟩ := st; ⟨o, hk it (by simp) o ho, r⟩
  item := fun i s Q E hi st hQ => by
    refine nextOf_bytes_item st (c := b[i]) (by simp [hi]) fun h' hit' hs' => ?_
    exact hQ _ h' (s.toks + 1) ⟨_, _, by simp [hi], rfl⟩ hit' hs'
  done := fun s Q E st hE => nextOf_bytes_end hh st (by simp) hE
set_option maxHeartbeats 1000000 in
theorem meets_enum_newB (x : Array UInt8) (t : Tok) :
    Meets (Builtin.«enumerate.__new__» ⟨[.type "enumerate", .bytes x t], []⟩) (fun _ R s =>
      R (.ok (.ret (.ref (s.heap.push { cls := .type "bytes_iterator", data := .fields #[.bytes x t, .int 0 0] }).objs.size)))
        { s with heap := (s.heap.push { cls := .type "bytes_iterator", data := .fields #[.bytes x t, .int 0 0] }).push { cls := .type "enumerate", data := .fields #[.none, .bool false, .ref s.heap.objs.size, rawInt 0, .none, .none] } }) :=
  .of_wp fun prog w A R s h => by
    obtain ⟨hp, g, d, tk, os⟩ := s
    have hsub := sub_enumerate
    wp_walk
    refine wpAny_stack_any fun st => wpAny_pure ?_
    split
    · rename_i c _ _ _ _ _
      cases (c == Value.type "enumerate")
      · wp_walk using KBw.pyIter_bytes
        exact ⟨_, rfl, h⟩
      · wp_walk using KBw.pyIter_bytes
        exact ⟨_, rfl, h⟩
    · wp_walk using KBw.pyIter_bytes
      exact ⟨_, rfl, h⟩
theorem call_enumerate_bytes {x : Array UInt8} {t : Tok} {Q : Value → Shared → Prop}
    (h : ∀ h', IsEnum h' (s.heap.objs.size + 1) s.heap.objs.size 0 .none → KBw.IsBytesIter h' s.heap.objs.size x t 0 → h'.objs.size = s.heap.objs.size + 2 →
      (∀ b o, s.heap.get? b = some o → h'.get? b = some o) → Q (.ref (s.heap.objs.size + 1)) { s with heap := h' }) :
    wpAny (model prog w) A (call (.type "enumerate") [.bytes x t]) Q E s := by
  refine callType_new PySem.F.called_enumerate (by decide) (PySem.F.typeCall_enumerate_1 _) (PySem.F.newCall_enumerate_1 _) (fun obj => PySem.F.args_object_init_2 obj _) PySem.F.entry_enumerate_new
    (meets_enum_newB x t) ?_
  have hz : (s.heap.push { cls := .type "bytes_iterator", data := .fields #[.bytes x t, .int 0 0] }).objs.size = s.heap.objs.size + 1 := Heap.size_push ..
  show _ ∧ _
  rw [hz]
  have he : IsEnum ((s.heap.push { cls := .type "bytes_iterator", data := .fields #[.bytes x t, .int 0 0] }).push
      { cls := .type "enumerate", data := .fields #[.none, .bool false, .ref s.heap.objs.size, rawInt 0, .none, .none] }) (s.heap.objs.size + 1) s.heap.objs.size 0 .none := by
    have := Heap.get?_push_size (s.heap.push { cls := .type "bytes_iterator", data := .fields #[.bytes x t, .int 0 0] })
      (o := { cls := .type "enumerate", data := .fields #[.none, .bool false, .ref s.heap.objs.size, rawInt 0, .none, .none] }) rfl
    rw [hz] at this; exact this
  refine ⟨⟨_, he, rfl⟩, h _ he ⟨_, Heap.get?_push_of_some _ (Heap.get?_push_size _ rfl), rfl, rfl⟩ (by rw [Heap.size_push, hz]) fun b o y => Heap.get?_push_of_some _ (Heap.get?_push_of_some _ y)⟩
theorem call_enum_bytes {h₀ : Heap} {L : Addr} {m : PySem.Str → Option Value} {news : List (Addr × Obj)} {x : Array UInt8} {t : Tok} {ks : List Int} {Q : Value → Shared → Prop} (hh : A.handled = none) (F : Fr h₀ L s.heap m) (N : News h₀ L s.heap news) (hks : KBw.bInts x = ks)
    (h : ∀ h' e, Fr h₀ L h' m → News h₀ L h' news → PairSrcL prog w A E h₀ L ItemKind.int ks (.ref e) { s with heap := h' } m news → Q (.ref e) { s with heap := h' }) :
    wpAny (model prog w) A (call (.type "enumerate") [.bytes x t]) Q E s := by
  subst hks
  have hLs : L < s.heap.objs.size := F.ns.lt
  have hab : h₀.objs.size ≤ L := F.above
  refine call_enumerate_bytes fun h' he hit hsz hk => ?_
  have F' : Fr h₀ L h' m := ⟨F.ns.keeps hk, fun b o e => hk b o (F.keep b o e), F.above⟩
  have N' : News h₀ L h' news := fun p hp => ⟨hk _ _ (N p hp).1, (N p hp).2⟩
  refine h h' _ F' N' fun env hL => ?_
  subst hL
  have side1 : s.heap.objs.size + 1 ∉ [s.heap.objs.size] := fun hm => Nat.succ_ne_self _ (List.mem_singleton.mp hm)
  have side2 : env.locals ∉ [s.heap.objs.size + 1, s.heap.objs.size] := fun hm => by
    rcases List.mem_cons.mp hm with e | hm
    · exact Nat.ne_of_lt (Nat.lt_succ_of_lt hLs) e
    · exact Nat.ne_of_lt hLs (List.mem_singleton.mp hm)
  have side3 : ∀ b ∈ [s.heap.objs.size + 1, s.heap.objs.size], ∀ q ∈ news, b ≠ q.1 := fun b hb q hq e => by
    have hq1 : q.1 < s.heap.objs.size := Heap.lt_size (N q hq).1
    rcases List.mem_cons.mp hb with e1 | hb
    · exact Nat.ne_of_gt (Nat.lt_succ_of_lt hq1) (e1.symm.trans e)
    · exact Nat.ne_of_gt hq1 ((List.mem_singleton.mp hb).symm.trans e)
  have hP : ∀ (i : Nat) (v : Value), (∃ (c : UInt8) (u : Tok), x[i]? = some c ∧ v = Value.int (c.toNat : Int) u) → ∃ a, (KBw.bInts x)[i]? = some a ∧ ItemKind.int.is a v := fun i v hv => by
    obtain ⟨c, u, hc, rfl⟩ := hv
    exact ⟨_, KBw.ints_get hc, u, rfl⟩
  exact enumSrc (draws_bytes (A := A.in1) hh s.heap.objs.size x t) he hit (Nat.succ_ne_self _) side1 (by simp) side2 (Heap.get?_none_of_le (Nat.le_trans hab (Nat.le_of_lt (Nat.lt_succ_of_lt hLs)))) (Heap.get?_none_of_le (Nat.le_trans hab (Nat.le_of_lt hLs))) side3 (by simp [KBw.ints_length]) hP F' N'
end
/-- what a fragment's octets make of the told ones: the first one at a place stays -/
def setd (T : List (Int × Int)) (p v : Int) : List (Int × Int) := if T.any (fun q => decide (q.1 = p)) then T else T ++ [(p, v)]
def tkn (T : List (Int × Int)) (b : Int) : List Int → List (Int × Int)
  | [] => T
  | v :: l => tkn (setd T b v) (b + 1) l
theorem tkn_snoc (l : List Int) : ∀ (T : List (Int × Int)) (b v : Int), tkn T b (l ++ [v]) = setd (tkn T b l) (b + l.length) v := by
  induction l with
  | nil => intro T b v; simp [tkn]
  | cons a l ih => intro T b v; rw [List.cons_append, tkn, ih, tkn]; congr 1; simp only [List.length_cons]; omega
theorem tkn_take {l : List Int} {T : List (Int × Int)} {b v : Int} {i : Nat} (h : l[i]? = some v) : tkn T b (l.take (i + 1)) = setd (tkn T b (l.take i)) (b + i) v := by
  have hi : i < l.length := (List.getElem?_eq_some_iff.mp h).1
  rw [List.take_add_one, h]
  show tkn T b (l.take i ++ [v]) = _
  rw [tkn_snoc, List.length_take, Nat.min_eq_left (Nat.le_of_lt hi)]
theorem setd_length_le (T : List (Int × Int)) (p v : Int) : (setd T p v).length ≤ T.length + 1 := by unfold setd; split <;> simp
theorem tkn_length_le (l : List Int) : ∀ (T : List (Int × Int)) (b : Int), (tkn T b l).length ≤ T.length + l.length := by
  induction l with
  | nil => intro T b; simp [tkn]
  | cons a l ih => intro T b; rw [tkn]; have := ih (setd T b a) (b + 1); have := setd_length_le T b a; simp only [List.length_cons]; omega
theorem KvIs.value {kvs : List (Int × Value)} {ps : List (Int × Int)} (h : KvIs kvs ps) (p : Int) : valueAt kvs p = none ∧ ps.any (fun q => decide (q.1 = p)) = false ∨ ∃ v t, valueAt kvs p = some (.int v t) ∧ ps.any (fun q => decide (q.1 = p)) = true ∧ (p, v) ∈ ps := by
  induction h with
  | nil => exact .inl ⟨rfl, rfl⟩
  | @cons k v t kvs ps _ ih =>
    by_cases hk : k = p
    · subst hk; exact .inr ⟨v, t, by simp [valueAt], by simp, .head _⟩
    · rcases ih with ⟨h1, h2⟩ | ⟨v', t', h1, h2, h3⟩
      · refine .inl ⟨?_, ?_⟩
        · unfold valueAt at h1 ⊢; rw [List.find?_cons_of_neg (by simpa using hk)]; exact h1
        · rw [List.any_cons, h2]; simp [hk]
      · refine .inr ⟨v', t', ?_, ?_, .tail _ h3⟩
        · unfold valueAt at h1 ⊢; rw [List.find?_cons_of_neg (by simpa using hk)]; exact h1
        · rw [List.any_cons, h2]; simp
theorem KvIs.append {kvs : List (Int × Value)} {ps : List (Int × Int)} (h : KvIs kvs ps) (k v : Int) (t : Tok) : KvIs (kvs ++ [(k, .int v t)]) (ps ++ [(k, v)]) := by
  induction h with
  | nil => exact .cons .nil
  | cons _ ih => exact .cons ih
theorem stored_new {K : Type} [DecidableEq K] {kvs : List (K × Value)} {k : K} {v : Value} (h : valueAt kvs k = none) : stored kvs k v = kvs ++ [(k, v)] := by
  unfold stored
  rw [if_neg]
  intro ha
  rw [List.any_eq_true] at ha
  obtain ⟨x, hx, hk⟩ := ha
  unfold valueAt at h
  rw [Option.map_eq_none_iff, List.find?_eq_none] at h
  exact h x hx (by simpa using hk)
end
/-! part: PlainL -/
section
/-- the told octet at a place -/
def getI (T : List (Int × Int)) (p : Int) : Option Int := (T.find? (fun q => decide (q.1 = p))).map (·.2)
def hasI (T : List (Int × Int)) (p : Int) : Bool := (getI T p).isSome
/-- the places below n with no untold one below or at them; and their octets -/
def rowTo (T : List (Int × Int)) (n : Nat) : List Int := ((List.range n).filter (fun p => (List.range (p + 1)).all (fun o => hasI T (o : Nat)))).map (fun p => (getI T ((p : Nat) : Int)).getD 0)
theorem KvIs.get {kvs : List (Int × Value)} {ps : List (Int × Int)} (h : KvIs kvs ps) (p : Int) : valueAt kvs p = none ∧ getI ps p = none ∨ ∃ v t, valueAt kvs p = some (.int v t) ∧ getI ps p = some v := by
  induction h with
  | nil => exact .inl ⟨rfl, rfl⟩
  | @cons k v t kvs ps _ ih =>
    by_cases hk : k = p
    · subst hk; exact .inr ⟨v, t, by simp [valueAt], by simp [getI]⟩
    · have e1 : ∀ x, valueAt ((k, x) :: kvs) p = valueAt kvs p := fun x => by unfold valueAt; rw [List.find?_cons_of_neg (by simpa using hk)]
      have e2 : getI ((k, v) :: ps) p = getI ps p := by unfold getI; rw [List.find?_cons_of_neg (by simpa using hk)]
      rw [e1, e2]; exact ih
theorem rowTo_succ (T : List (Int × Int)) (n : Nat) : rowTo T (n + 1) = rowTo T n ++ (if (List.range (n + 1)).all (fun o => hasI T (o : Nat)) then [(getI T (n : Int)).getD 0] else []) := by
  unfold rowTo
  rw [List.range_succ (n := n), List.filter_append, List.map_append]
  congr 1
  rw [← List.range_succ]
  by_cases h : (List.range (n + 1)).all (fun o => hasI T (o : Nat)) = true
  · rw [List.filter_cons_of_pos (by simpa using h), if_pos h]; rfl
  · rw [List.filter_cons_of_neg (by simpa using h), if_neg h]; rfl
theorem rowTo_length (T : List (Int × Int)) (n : Nat) : (rowTo T n).length ≤ n := by
  unfold rowTo
  rw [List.length_map]
  exact Nat.le_trans (List.length_filter_le _ _) (by simp)
theorem getI_mem {T : List (Int × Int)} {p v : Int} (h : getI T p = some v) : (p, v) ∈ T := by
  unfold getI at h
  obtain ⟨q, hq, e⟩ := Option.map_eq_some_iff.mp h
  have h1 := List.find?_some hq
  have h2 := List.mem_of_find?_eq_some hq
  simp only [decide_eq_true_eq] at h1
  subst h1; subst e; exact h2
theorem getI_in {T : List (Int × Int)} (h : ∀ q ∈ T, 0 ≤ q.2 ∧ q.2 < 256) (p : Int) : 0 ≤ (getI T p).getD 0 ∧ (getI T p).getD 0 < 256 := by
  cases e : getI T p with
  | none => decide
  | some v => exact h _ (getI_mem e)
theorem rowTo_in (T : List (Int × Int)) (h : ∀ q ∈ T, 0 ≤ q.2 ∧ q.2 < 256) (n : Nat) : KBa.In (rowTo T n) := by
  intro k hk
  obtain ⟨p, _, rfl⟩ := List.mem_map.mp hk
  exact getI_in h _
end
/-! part: SKeys -/
section
section
variable {prog : Program} {w : World} {A : Around} {E : Value → Shared → Prop} {s : Shared} {h₀ : Heap} {L d : Addr} {m : PySem.Str → Option Value} {news : List (Addr × Obj)} {o : Obj} {kvs : List (Int × Value)} {told : List (Int × Int)} {Q : Value → Shared → Prop}
theorem sorted_keys (hh : A.handled = none) (F : Fr h₀ L s.heap m) (N : News h₀ L s.heap news) (hp : (d, o) ∈ news) (hd : o.IsDictOf (PySem.intKind prog w) kvs) (lo : (d == sysModules) = false) (hkv : KvIs kvs told) (h64 : told.length < 64)
    (h : ∀ D vs' ns' c h' tk, Fr h₀ L h' m → News h₀ L h' ((D, listOf (List.toArray vs') c) :: news) → (∀ q ∈ news, q.1 < D) → IntsAre vs' ns' → ns'.Perm (told.map (·.1)) → ns'.Pairwise (· ≤ ·) → Q (.ref D) { s with heap := h', toks := tk }) :
    wpAny (model prog w) A (call (.builtin "sorted") [.ref d]) Q E s := by
  obtain ⟨ep, hat⟩ := (kda_dict N hp hd).dictAt
  refine kdu_sorted (kdl_dict (knd := PySem.intKind prog w) (kvs := kvs) (ep := ep) lo) hh F N hat (by rw [hkv.length, sizeLine_eq]; omega) fun B h' tk vs F' N' l1 hl hv => ?_
  have hi : IntsAre vs (told.map (·.1)) := by
    refine kdy_ints (by rw [hl, hkv.length, List.length_map]) fun j v e => ?_
    obtain ⟨k, x, hx, hk⟩ := hv j v e
    obtain ⟨v', hv', _⟩ := hkv.at hx
    obtain ⟨t, rfl⟩ := Value.isInt_shape hk
    exact ⟨k, by simp [hv'], t, rfl⟩
  refine ksk_lsort (A := A.in1) (news' := fun o => (B, o) :: news) F' N' (fun o => Upd.head fun p hp => Nat.ne_of_lt (l1 p hp)) (by simp) hi (by rw [List.length_map]; exact h64) ?_
  intro vs' ns' c h'' F'' N'' hI _ hP hW _
  exact h _ _ _ _ _ _ F'' N'' l1 hI hP hW
theorem ne_opt {v v' : Value} {e : Option Int} (h : IsOpt v e) (h' : IsOpt v' e) (q : Q (.bool false) s) : wpAny (model prog w) A (compareOp .NotEq v v') Q E s := by
  cases e with
  | none =>
    obtain rfl : v = .none := h
    obtain rfl : v' = .none := h'
    exact EqNone.ne_none_none q
  | some n =>
    obtain ⟨t, rfl⟩ : ∃ t, v = .int n t := h
    obtain ⟨t', rfl⟩ : ∃ t, v' = .int n t := h'
    refine ne_int ?_
    rw [show (n != n) = false from by simp]; exact q
end
end
/-! part: Taken -/
section
local macro_rules | `(tactic| walk_at "exec For Tuple Call cons nil") => `(tactic| (k_here; (rename Fr _ _ _ _ => F'); (with_reducible apply For_pair3F); (case _F => with_unfolding_all exact F'); (case hh => with_unfolding_all rfl); (case hxi => with_unfolding_all rfl); (case hxc => with_unfolding_all rfl); (case hp => with_unfolding_all rfl); (case hs => (intro _; with_unfolding_all rfl))))
local macro_rules | `(tactic| walk_at "call type:enumerate") => `(tactic| (k_here; refine hold ?_))
local macro_rules | `(tactic| walk_at "pyIter ref") => `(tactic| (k_here; refine hold ?_))
local macro_rules | `(tactic| walk_at "call builtin:dict.setdefault") => `(tactic| (k_here; refine hold ?_))
def RecIs (w : World) (ro : Obj) (oc : Addr) (ev fv : Value) (ahead : Int) : Prop := ∃ ta : Tok, Obj.IsDictOf (PySem.strKind PySem.Challenge.rw_on0344_01.row.prog w) ro [(Str.ofString "octets", .ref oc), (Str.ofString "end", ev), (Str.ofString "ahead", .int ahead ta), (Str.ofString "first", fv)]
inductive TakenPost (w : World) (rc oc hx : Addr) (rest : List (Addr × Obj)) (ev fv : Value) (fst : Option Addr) (ahead b : Int) (more : Bool) (ks : List Int) (told : List (Int × Int)) (r : Value) (nx : List (Addr × Obj)) : Prop
  | mk (ro' oo' : Obj) (kvs' : List (Int × Value)) (ev' fv' : Value) (e1 : r = .none) (e2 : nx = (oc, oo') :: (rc, ro') :: rest)
      (h1 : RecIs w ro' oc ev' fv' (if more then (if b + (ks.length : Int) > ahead then b + (ks.length : Int) else ahead) else ahead)) (h2 : Obj.IsDictOf (PySem.intKind PySem.Challenge.rw_on0344_01.row.prog w) oo' kvs') (h3 : KvIs kvs' (tkn told b ks))
      (h4 : if more then ev' = ev else ∃ t, ev' = .int (b + ks.length) t) (h5 : fv' = if b = 0 ∧ fst = none then .ref hx else fv)
theorem taken_ctr {w : World} {mean : ExcName → Option Value} {mg mb : PySem.Str → Option Value} {rc oc hx : Addr} {ro oo : Obj} {rest : List (Addr × Obj)} {ev fv : Value} {fst : Option Addr} {ahead b : Int} {tb to : Tok} {more : Bool} {arr : Array UInt8} {ks : List Int} {kvs : List (Int × Value)} {told : List (Int × Int)}
   (hne : @Ne Nat oc rc) (hr1 : ∀ p ∈ rest, p.1 ≠ oc) (hr2 : ∀ p ∈ rest, p.1 ≠ rc) (hro : RecIs w ro oc ev fv ahead) (hf : IsRefOpt fv fst)
   (hoo : Obj.IsDictOf (PySem.intKind PySem.Challenge.rw_on0344_01.row.prog w) oo kvs) (hkv : KvIs kvs told) (hs1 : (rc == sysModules) = false) (hs2 : (oc == sysModules) = false) (hn : told.length < 1000) (hks : KBw.bInts arr = ks) (hk1 : ks.length < 1000) :
   Ctr w mean mg mb 304 [.ref rc, .ref hx, .int b tb, .bytes arr to, .bool more] ((oc, oo) :: (rc, ro) :: rest) 4 32 (TakenPost w rc oc hx rest ev fv fst ahead b more ks told) := by
  obtain ⟨ta, hro⟩ := hro
  unfold Ctr
  k_fill
  intro dp un gd cn cs ca ccd cl outer A₀ base h₀ L m s Q E B F X N T hk hd hu hret
  refine wpAny_call ?_
  k_dflt ktr_enter
  rename Fr _ _ _ _ => lF
  replace lF : Fr _ _ _ (fun y => List.lookup y [(Str.ofString "more", Value.bool more), (Str.ofString "octets", .bytes arr to), (Str.ofString "begin", .int b tb), (Str.ofString "head", .ref hx), (Str.ofString "record", .ref rc)]) := lF
  k_steps
  unfold Hold
  rename Fr _ _ _ _ => lF
  refine call_enum_bytes (by with_unfolding_all rfl) lF (by assumption) hks ?_
  clear lF
  intro h1 e1 F1 N1 S1
  k_steps
  unfold Hold
  obtain ⟨b0, hb0⟩ : ∃ b0 : Int, b0 = b := ⟨b, rfl⟩
  refine S1 _ rfl (Str.ofString "at") (Str.ofString "octet") _ _ (fun i m' nx => (∀ z, [Str.ofString "at", Str.ofString "octet"].contains z = false → m' z = List.lookup z [(Str.ofString "more", Value.bool more), (Str.ofString "octets", .bytes arr to), (Str.ofString "begin", .int b tb), (Str.ofString "head", .ref hx), (Str.ofString "record", .ref rc)]) ∧
      Ex2 fun (oo' : Obj) (kvs' : List (Int × Value)) => An3 (nx = (oc, oo') :: (rc, ro) :: rest) (Obj.IsDictOf (PySem.intKind PySem.Challenge.rw_on0344_01.row.prog w) oo' kvs') (KvIs kvs' (tkn told b (ks.take i)))) ⟨fun z _ => rfl, oo, kvs, rfl, hoo, hkv⟩ ?turn ?done
  case turn =>
    rintro i a t v m₁ news₁ s₁ own ⟨h2, tk2, rfl⟩ ha ⟨t2, rfl⟩ ⟨hm, oo', kvs', rfl, hoo', hkv'⟩ hmap hown F2 N2
    have em : (fun y => if y = Str.ofString "octet" then some (.int a t2) else if y = Str.ofString "at" then some (.int i t) else m₁ y) = (fun y => if y = Str.ofString "octet" then some (.int a t2) else if y = Str.ofString "at" then some (.int i t) else List.lookup y [(Str.ofString "more", Value.bool more), (Str.ofString "octets", .bytes arr to), (Str.ofString "begin", .int b tb), (Str.ofString "head", .ref hx), (Str.ofString "record", .ref rc)]) := by
      funext y
      by_cases h1 : y = Str.ofString "octet"
      · rw [if_pos h1, if_pos h1]
      by_cases h2 : y = Str.ofString "at"
      · rw [if_neg h1, if_pos h2, if_neg h1, if_pos h2]
      · rw [if_neg h1, if_neg h2, if_neg h1, if_neg h2]
        exact hm y (by rw [Bool.eq_false_iff]; intro hc; rw [List.contains_iff_mem] at hc; rcases List.mem_cons.mp hc with e | hc; exact h2 e; exact h1 (List.mem_singleton.mp hc))
    rw [em] at F2
    clear em hm F1 N1 hmap
    have N3 : News _ _ h2 ((oc, oo') :: (rc, ro) :: (own ++ rest)) := fun p hp => N2 p (by
      rcases List.mem_cons.mp hp with rfl | hp
      · exact List.mem_append_right _ (.head _)
      rcases List.mem_cons.mp hp with rfl | hp
      · exact List.mem_append_right _ (.tail _ (.head _))
      rcases List.mem_append.mp hp with hp | hp
      · exact List.mem_append_left _ hp
      · exact List.mem_append_right _ (.tail _ (.tail _ hp)))
    clear N2
    k_steps
    unfold Hold
    have hq : ∀ p ∈ (rc, ro) :: (own ++ rest), p.1 ≠ oc := fun p hp => by
      rcases List.mem_cons.mp hp with rfl | hp
      · exact fun e => hne e.symm
      rcases List.mem_append.mp hp with hp | hp
      · exact hown p hp (oc, oo) (.head _)
      · exact hr1 p hp
    have hlen : kvs'.length ≤ sizeLine := by
      rw [hkv'.length, sizeLine_eq]
      have := tkn_length_le (ks.take i) told b
      rw [List.length_take] at this
      omega
    have back : ∀ (o5 : Obj), ∀ p ∈ own ++ (oc, o5) :: (rc, ro) :: rest, p ∈ (oc, o5) :: (rc, ro) :: (own ++ rest) := fun o5 p hp => by
      rcases List.mem_append.mp hp with hp | hp
      · exact .tail _ (.tail _ (List.mem_append_left _ hp))
      rcases List.mem_cons.mp hp with rfl | hp
      · exact .head _
      rcases List.mem_cons.mp hp with rfl | hp
      · exact .tail _ (.head _)
      · exact .tail _ (.tail _ (List.mem_append_right _ hp))
    have off : ∀ z, [Str.ofString "at", Str.ofString "octet"].contains z = false → (fun y => if y = Str.ofString "octet" then some (.int a t2) else if y = Str.ofString "at" then some (.int i t) else List.lookup y [(Str.ofString "more", Value.bool more), (Str.ofString "octets", .bytes arr to), (Str.ofString "begin", .int b tb), (Str.ofString "head", .ref hx), (Str.ofString "record", .ref rc)]) z = List.lookup z [(Str.ofString "more", Value.bool more), (Str.ofString "octets", .bytes arr to), (Str.ofString "begin", .int b tb), (Str.ofString "head", .ref hx), (Str.ofString "record", .ref rc)] := fun z hz => by
      dsimp only
      repeat (first | refine if_off hz rfl ?_ | exact rfl)
    rcases hkv'.value (b + i) with ⟨hv1, hv2⟩ | ⟨vv, tt, hv1, hv2, -⟩
    · refine kob_setdef_new (knd := PySem.intKind _ w) (by k_asm) (by k_asm) (UpdF.head hq) hoo' hs2 (intKind_is _ _ _ _) (PySem.F.args_dict_setdefault_3 _ _ _) hv1 hlen ?_
      clear F2 N3
      intro h5 o5 F5 N5 d5
      rw [stored_new hv1] at d5
      k_steps
      refine LoopStep2.intro (by assumption) (fun p hp => N5 p (back _ p hp)) rfl ⟨off, o5, _, rfl, d5, ?_⟩
      rw [tkn_take ha, setd, hv2]
      exact hkv'.append _ _ _
    · refine kob_setdef_there (knd := PySem.intKind _ w) (by k_asm) (List.Mem.head _) hoo' hs2 (intKind_is _ _ _ _) (PySem.F.args_dict_setdefault_3 _ _ _) hv1 hlen ?_
      k_steps
      refine LoopStep2.intro (by assumption) (fun p hp => N3 p (back _ p hp)) rfl ⟨off, oo', _, rfl, hoo', ?_⟩
      rw [tkn_take ha, setd, if_pos hv2]
      exact hkv'
  case done =>
    rintro h2 tk2 m₁ news₁ F2 N2 hmap ⟨hm, oo', kvs', rfl, hoo', hkv'⟩
    rw [List.take_length] at hkv'
    replace F2 := Fr.only [Str.ofString "at", Str.ofString "octet"] F2 hm
    clear F1 N1 hm hmap
    cases fst with
    | none =>
      obtain rfl : fv = .none := hf
      cases more
      all_goals k_steps
      all_goals rename News h₀ L _ _ => N'
      all_goals rename Fr h₀ L _ m => F'
      all_goals rename Obj.IsDictOf (PySem.strKind _ _) _ _ => D'
      all_goals refine hret _ _ _ _ F' N' ⟨_, oo', kvs', _, _, rfl, rfl, ⟨_, D'⟩, hoo', hkv', ?_, ?_⟩
      all_goals first | exact rfl | exact ⟨_, rfl⟩ | (rw [if_pos ⟨by assumption, rfl⟩]) | (rw [if_neg (fun h => absurd h.1 (by assumption))]) | (rw [if_neg (fun h => by cases h.2)])
    | some fa =>
      obtain rfl : fv = .ref fa := hf
      cases more
      all_goals k_steps
      all_goals rename News h₀ L _ _ => N'
      all_goals rename Fr h₀ L _ m => F'
      all_goals rename Obj.IsDictOf (PySem.strKind _ _) _ _ => D'
      all_goals refine hret _ _ _ _ F' N' ⟨_, oo', kvs', _, _, rfl, rfl, ⟨_, D'⟩, hoo', hkv', ?_, ?_⟩
      all_goals first | exact rfl | exact ⟨_, rfl⟩ | (rw [if_pos ⟨by assumption, rfl⟩]) | (rw [if_neg (fun h => absurd h.1 (by assumption))]) | (rw [if_neg (fun h => by cases h.2)])
end
/-! part: NeSame -/
section
open Builtin
section
variable {prog : Program} {w : World} {A : Around} {E : Value → Shared → Prop} {s : Shared} {K : Frag} {x C : Addr} {ox : Obj} {od : Option Obj}
theorem ifBound_B {M : Model} {name : PySem.Str} {id : String} {args : List Value} {Q : Option Value → Shared → Prop} (X : K.In s.heap) (I : InstAt s.heap x ox C od) (hs : findIn K (.ref C) name = some (some (.builtin id))) (S : Slot "object" name id)
    (h : wpAny M A (call (.builtin id) (.ref x :: args)) (fun v => Q (some v)) E s) : wpAny M A (callSpecialIfBound? (.ref x) name args) Q E s := by
  simp only [callSpecialIfBound?, bindSpecialIfBound?]
  refine wpAny_holding (wpAny_bind (wpAny_bind (wpAny_bind (I.type.here ((looks_findIn X hs).here ?_)))))
  simp only [S.bind]
  refine wpAny_bind (wpAny_askSetting (wpAny_ite ?_))
  have fin : wpAny M A (call (.builtin id) ([.ref x] ++ args) >>= fun v => pure (some v)) Q E s := wpAny_bind (wpAny_mono h (fun v s' h' => wpAny_pure h') fun _ _ h' => h')
  split
  · exact wpAny_bind (wpAny_pure (wpAny_pure fin))
  · exact wpAny_tryCatch (wpAny_bind (wpAny_pure (wpAny_pure fin)))
theorem check_slot_K {M : Model} {id owner n : String} {rest : List Value} {Q : Unit → Shared → Prop} (hk : builtinKind id = some .slot) (hs : splitId id = some (owner, n))
    (ha : argsOk id ⟨.ref x :: rest, []⟩) (X : K.In s.heap) (I : InstAt s.heap x ox C od) (hsub : subIn K (.ref C) (.type owner) = some true) (hq : Q () s) :
    wpAny M A (checkBuiltinCall id ⟨.ref x :: rest, []⟩) Q E s := by
  simp only [checkBuiltinCall, hk, hs]
  refine wpAny_bind ?_
  · unfold isInstance
    refine wpAny_bind (I.type.here ((looks_subIn X hsub).here ?_))
    simp only [if_true, Bool.not_true, Bool.false_eq_true, if_false]
    cases hsig : Manifest.signature? id with
    | none => exact wpAny_pure hq
    | some sig =>
      simp only [argsOk, hsig] at ha
      have h2 : Bind.checkArgs id sig ⟨.ref x :: rest, []⟩ = pure () := ha
      show wpAny M A (Bind.checkArgs id sig ⟨.ref x :: rest, []⟩) Q E _
      rw [h2]; exact wpAny_pure hq
theorem ne_same_K {Q : Value → Shared → Prop} (X : K.In s.heap) (I : InstAt s.heap x ox C od) (he : findIn K (.ref C) "__eq__" = some (some (.builtin "object.__eq__"))) (hn : findIn K (.ref C) "__ne__" = some (some (.builtin "object.__ne__")))
    (hsub : subIn K (.ref C) (.type "object") = some true) (hu : A.units + 1 < cLine) (hq : Q (.bool false) s) : wpAny (model prog w) A (compareOp .NotEq (.ref x) (.ref x)) Q E s := by
  have eqc : ∀ {A : Around} {Q : Option Value → Shared → Prop} {E : Value → Shared → Prop}, Q (some (.bool true)) s → wpAny (model prog w) A (callSpecialIfBound? (.ref x) "__eq__" [.ref x]) Q E s := fun {A Q E} q =>
    ifBound_B X I he PySem.F.cmp_object.eq (wpAny_call (codeAny_call_builtin PySem.F.cmp_object.eq.plain PySem.F.cmpEntry_eq (check_slot_K PySem.F.cmpKind_eq PySem.F.cmpSplit_eq (PySem.F.cmpArgs_eq _ _) X I hsub (objEq_entry_same q))))
  have nen : ∀ {A : Around} {Q : Fin → Shared → Prop} {E : Value → Shared → Prop}, A.units < cLine → Q (.done (.ret (.bool false))) s → wpAny (model prog w) A (Builtin.«object.__ne__» ⟨[.ref x, .ref x], []⟩) Q E s := fun {A Q E} hu q => by
    unfold Builtin.«object.__ne__»
    repeat (first | with_reducible refine wpAny_cRoomFor hu ?_ | with_reducible refine eqc ?_ | wp_step)
    exact q
  show wpAny (model prog w) A (richCompare .NotEq (.ref x) (.ref x)) Q E s
  unfold richCompare
  simp only [oneThing_ref]
  refine wpAny_holding (wpAny_bind (wpAny_cRoomFor (Nat.lt_of_succ_lt hu) ?_))
  rw [cmpInfo_NotEq]
  dsimp only
  refine wpAny_bind (I.type.here (wpAny_bind (I.type.here ?_)))
  rw [show (Value.ref C != Value.ref C) = false from by simp]
  simp only [Bool.false_eq_true, if_false]
  refine wpAny_bind (wpAny_pure ?_)
  simp only [Bool.false_eq_true, if_false]
  unfold tryCompare
  refine wpAny_bind (wpAny_bind (ifBound_B X I hn PySem.F.cmp_object.ne (wpAny_call (codeAny_call_builtin PySem.F.cmp_object.ne.plain PySem.F.cmpEntry_ne (check_slot_K PySem.F.cmpKind_ne PySem.F.cmpSplit_ne (PySem.F.cmpArgs_ne _ _) X I hsub (nen (A := A.in1) hu ?_))))))
  exact wpAny_pure (wpAny_pure hq)
end
end
/-! part: Small -/
section
local macro_rules | `(tactic| walk_at "call builtin:len") => `(tactic| (k_here; (with_reducible show wpAny _ _ (call (Value.builtin "len") [Value.ref _]) _ _ _); refine hold ?_))
local macro_rules | `(tactic| walk_at "subscriptTail Name Call ref int") => `(tactic| (k_here; refine hold ?_))
theorem one_ctr {w : World} {mean : ExcName → Option Value} {mg mb : PySem.Str → Option Value} {sl th : Addr} {a b : Int} {t1 t2 : Tok} {n c : Nat} {rest : List (Addr × Obj)} {vs : List Value} {ns : List Int}
   (h1 : 0 ≤ a) (h2 : 0 ≤ b) (h3 : b < 2147483647) (hr : ∀ p ∈ rest, p.1 ≠ sl) (ht : (th, listOf vs.toArray c) ∈ rest) (hi : IntsAre vs ns) (h4 : 0 < ns.length) (h5 : ns.length < 100) :
   Ctr w mean mg mb 285 [.ref sl, .ref th] ((sl, listOf #[.int a t1, .int b t2] n) :: rest) 4 32
     (OnePost sl ns rest) := by
  unfold Ctr
  k_fill
  intro dp un gd cn cs ca ccd cl outer A₀ base h₀ L m s Q E B F X N T hk hd hu hret
  refine wpAny_call ?_
  k_dflt ktr_enter
  rename Fr _ _ _ _ => lF
  replace lF : Fr _ _ _ (fun y => List.lookup y [(Str.ofString "things", Value.ref th), (Str.ofString "source", Value.ref sl)]) := lF
  k_steps
  unfold Hold
  refine len_list (News.isList (by k_asm) (List.Mem.tail _ ht)) (by rw [List.size_toArray, hi.length]; omega) ?_
  rw [List.size_toArray, hi.length]
  k_steps
  unfold Hold
  refine Ctr.use (by k_asm) (by k_asm) (take_ctr (k := (ns.length : Int)) h1 h2 h3 (by omega) (by omega) hr) sub_refl (by k_asm) (by k_asm) (by k_asm) (by first | assumption | exact rfl) (by ktr_room) (by ktr_units) ?_
  rintro r8 h8 tk8 nx8 F8 N8 ⟨i, ti, a', b', t1', t2', n', rfl, hi0, hi1, ha, hb, hb2, rfl⟩
  dsimp only
  k_steps
  unfold Hold
  have hlt : i.toNat < vs.length := by rw [hi.length]; omega
  have hv : vs[i.toNat]? = some vs[i.toNat] := by simp
  obtain ⟨v, t, e, hn⟩ := hi.at _ _ hv
  rw [e] at hv
  refine item_list (items := vs.toArray) (News.isList N8 (List.Mem.tail _ ht)) hi0 (by omega) (by simpa using hv) ?_
  k_steps
  rename Fr h₀ L _ m => F'
  rename News h₀ L _ _ => N'
  exact hret _ _ _ _ F' N' ⟨v, t, _, _, _, _, _, rfl, List.mem_of_getElem? hn, ha, hb, hb2, rfl⟩
inductive HeadPost (more : Bool) (off : Int) (led : List (Addr × Obj)) (r : Value) (nx : List (Addr × Obj)) : Prop
  | mk (H D : Addr) (oh : Obj) (e : r = .ref H) (e2 : nx = (H, instObj 74 D) :: (D, oh) :: led) (h1 : IsHdr oh more off) (h2 : @Ne Nat H D) (h3 : ∀ p ∈ led, @LT.lt Nat _ p.1 H ∧ @LT.lt Nat _ p.1 D)
theorem head_ctr {w : World} {mean : ExcName → Option Value} {mg mb : PySem.Str → Option Value} {led : List (Addr × Obj)} {more : Bool} {off : Int} {to tp : Tok} {arr : Array UInt8} :
   Ctr w mean mg mb 292 [.bool more, .int off to, .bytes arr tp] led 4 32
     (HeadPost more off led) := by
  unfold Ctr
  k_fill
  intro dp un gd cn cs ca ccd cl outer A₀ base h₀ L m s Q E B F X N T hk hd hu hret
  refine wpAny_call ?_
  k_dflt ktr_enter
  rename Fr _ _ _ _ => lF
  replace lF : Fr _ _ _ (fun y => List.lookup y [(Str.ofString "options", Value.bytes arr tp), (Str.ofString "offset", Value.int off to), (Str.ofString "more", Value.bool more)]) := lF
  k_steps
  unfold Hold
  refine Ctr.use (by k_asm) (by k_asm) newh_ctr sub_refl (by k_asm) (by k_asm) (by k_asm) (by first | assumption | exact rfl) (by ktr_room) (by ktr_units) ?_
  rintro r8 h8 tk8 nx8 F8 N8 ⟨H, D, oh, rfl, rfl, hoh, l2, l1⟩
  clear F N
  dsimp only
  k_steps
  rename Fr h₀ L _ m => F'
  rename News h₀ L _ _ => N'
  exact hret _ _ _ _ F' N' ⟨_, _, _, rfl, rfl, hoh.is, Nat.ne_of_gt l2, fun p hp => ⟨Nat.lt_trans (l1 p hp) l2, l1 p hp⟩⟩
theorem bad_ctr {w : World} {mean : ExcName → Option Value} {mg mb : PySem.Str → Option Value} {led : List (Addr × Obj)} {hx hdx : Addr} {oh : Obj} {more : Bool} {off : Int} {to tp : Tok} {arr : Array UInt8} {pay : List Int}
   (hh : (hx, instObj 74 hdx) ∈ led) (hhd : (hdx, oh) ∈ led) (hoh : IsHdr oh more off) (hb : KBw.bInts arr = pay) (hpl : pay.length < 1000) :
   Ctr w mean mg mb 202 [.ref hx, .bytes arr tp] led 4 32
     (fun r nx => nx = led ∧ r = .bool (more && (pay.isEmpty || !decide ((pay.length : Int) % 8 = 0)))) := by
  have hem : pay.isEmpty = decide (arr = #[]) := by
    rw [← hb]; unfold KBw.bInts; obtain ⟨l⟩ := arr; cases l <;> simp
  have h8 : ((pay.length : Int) % 8) = (pay.length : Int).fmod 8 := (Int.fmod_eq_emod_of_nonneg _ (by decide)).symm
  rw [h8]
  obtain ⟨e1, e2, e3, e4, e5, e6, e7, e8, e9, e0, f1, f2, f3, f4, f5, f6, f7, f8, f9, f0, v1, v2, v3, v4, v5, v6, v7, v0, vt9, rfl⟩ := hoh
  unfold Ctr
  k_fill
  intro dp un gd cn cs ca ccd cl outer A₀ base h₀ L m s Q E B F X N T hk hd hu hret
  refine wpAny_call ?_
  k_dflt ktr_enter
  rename Fr _ _ _ _ => lF
  replace lF : Fr _ _ _ (fun y => List.lookup y [(Str.ofString "payload", Value.bytes arr tp), (Str.ofString "header", Value.ref hx)]) := lF
  k_steps
  all_goals rename Fr h₀ L _ m => F'
  all_goals rename News h₀ L _ _ => N'
  all_goals refine hret _ _ _ _ F' N' ⟨rfl, congrArg Value.bool ?_⟩
  all_goals clear F' N' hret F N B X T hk hd hu
  all_goals simp_all [bne]
  all_goals rfl
end
/-! part: LoopN -/
section
open PyProof.Rows.LCg
section
variable {prog : Program} {w : World} {A : Around} {E : Value → Shared → Prop} {s : Shared} {env : Env} {h₀ : Heap} {x : PySem.Str} {px : Pos} {body : List Stmt} {Q : Flow → Shared → Prop}
/-- a loop over a range, its name plain -/
theorem loop_range {r : Addr} {b : Int} {t u v : Tok} {n : Nat} {m : PySem.Str → Option Value} {news : List (Addr × Obj)} (J : Nat → (PySem.Str → Option Value) → List (Addr × Obj) → Prop)
    (hh : A.handled = none) (hE : PassesOwn (model prog w) A env E) (F : Fr h₀ env.locals s.heap m) (N : News h₀ env.locals s.heap news)
    (hr : IsRange s.heap r 0 b 1 t u v) (hsm : Builtin.Range.small 0 b 1 = true) (hn : Builtin.Range.rangeSize 0 b 1 = ((n : Nat) : Int)) (j0 : J 0 m news)
    (turn : ∀ (i : Nat) t m₁ nx h tk I oI (R : Flow → Shared → Prop), TurnR h₀ env.locals I oI (J (i + 1)) { s with heap := h, toks := tk } Q R → i < n → J i m₁ nx → (∀ p ∈ nx, p.1 ≠ I) → Fr h₀ env.locals h m₁ → News h₀ env.locals h ((I, oI) :: nx) →
      wpAny (model prog w) A (assign (.Name x px) env (.int (i : Int) t)) (fun _ s₂ => wpAny (model prog w) A (execs body env) R E s₂) E { s with heap := h, toks := tk })
    (done : ∀ m₁ nx h tk, J n m₁ nx → Fr h₀ env.locals h m₁ → News h₀ env.locals h nx → Q .next { s with heap := h, toks := tk }) :
    wpAny (model prog w) A (pyIter (.ref r)) (fun it s₂ => LoopG prog w A env (.Name x px) body Q E it s₂) E s := by
  refine wpAny_pyIter_range hr hsm ?_
  have W := range_walks (prog := prog) (w := w) (I := s.heap.objs.size) hh 0 n
  refine loopW (s := { s with heap := s.heap.push { cls := .type "range_iterator", data := .fields #[rawInt 0, rawInt (Builtin.Range.rangeSize 0 b 1), rawInt 1] } }) (h₀ := h₀) (m := m) (news := news) J W rfl (next_is_new F) (Nat.ne_of_gt F.ns.lt) ?_ ?_ hE ?_
    (by show IsRangeIter _ _ _ _ _; rw [hn]; simpa using Heap.get?_push_size _ rfl) (F.push _) (fun p hp => ⟨Heap.get?_push_of_some _ (N p hp).1, (N p hp).2⟩) (fun p hp => Nat.ne_of_lt (Heap.lt_size (N p hp).1)) j0 ?_ ?_
  · exact fun i h st => ⟨_, st⟩
  · exact fun b hb => .inl (List.mem_singleton.mp hb)
  · intro i v s' Q' E' st hP hq
    exact wpAny_of_eq (rfl : letOwnedTupleGo (.Name x px) _ v = pure ()) hq
  · intro i v m₁ nx h tk oI hi hP hJ hn' F₁ N₁
    obtain ⟨t, rfl⟩ := hP
    rw [Int.zero_add]
    exact turn i t m₁ nx h tk _ oI _ .own hi hJ hn' F₁ N₁
  · intro m₁ nx h tk hJ F₁ N₁
    exact done m₁ nx h tk hJ F₁ N₁
end
end
/-! part: BytesN -/
section
open Builtin
theorem bi_no_bytes : typeLookup (.type "int") "__bytes__" = pure none := by rw [typeLookup_type, builtinLookup_eq_fast]; kernel_rfl
theorem bi_index : typeLookup (.type "int") "__index__" = pure (some (.builtin "int.__index__")) := by rw [typeLookup_type, builtinLookup_eq_fast]; kernel_rfl
section
variable {prog : Program} {w : World} {A : Around} {E : Value → Shared → Prop} {s : Shared}
theorem bn_new {n : Int} {u : Tok} {Q : Value → Shared → Prop} (h0 : 0 ≤ n) (h1 : n ≤ 1000)
    (hQ : ∀ t k, Q (.bytes (Array.replicate n.toNat 0) t) { s with toks := k }) :
    codeAny (model prog w) A (.call (.builtin "bytes.__new__") ⟨[.type "bytes", .int n u], []⟩) (wants Q E) s := by
  refine codeAny_of_tree ?_
  show wpAny _ A.in1 (do checkBuiltinCall "bytes.__new__" ⟨[.type "bytes", .int n u], []⟩; again (.builtin "bytes.__new__" ⟨[.type "bytes", .int n u], []⟩)) _ _ s
  refine wpAny_bind (wpAny_of_eq (PySem.F.bm_newCall _) (wpAny_pure ⟨plainId_quiet PySem.F.bm_plain _, codeAny_builtin PySem.F.bm_entry ?_⟩))
  rw [Around.under_plainId PySem.F.bm_plain _]
  have hT : s.TypeIs (.int n u) "int" := typeIs_int s n u
  unfold Builtin.«bytes.__new__»
  refine wpAny_bind (wpAny_of_eq (a := true) rfl ?_)
  refine bm_if_false rfl ?_
  refine wpAny_bind (wpAny_of_eq PySem.F.bm_sub ?_)
  refine bm_if_false rfl ?_
  refine wpAny_bind (wpAny_of_eq (PySem.F.bm_bind _) ?_)
  refine wpAny_bind (wpAny_of_eq (a := ()) rfl ?_)
  refine wpAny_bind (wpAny_of_eq (a := ()) rfl ?_)
  refine bm_if_false rfl ?_
  refine wpAny_bind (wpAny_specialOf hT bi_no_bytes ?_)
  refine wpAny_bind (wpAny_bind ?_)
  refine wpAny_pure (wpAny_pure ?_)
  refine bm_if_false rfl ?_
  refine wpAny_bind (wpAny_specialOf hT bi_index ?_)
  refine bm_if_false rfl ?_
  refine wpAny_bind (wpAny_of_eq (a := Except.ok n) rfl ?_)
  dsimp only
  rw [show Bytes.fitsIndex n = true from by simp only [Bytes.fitsIndex, Bool.and_eq_true, decide_eq_true_eq]; omega]
  simp only [Bool.not_true, Bool.false_eq_true, if_false]
  rw [if_neg (by omega), if_neg (by omega), if_neg (by unfold Bytes.tooLong; rw [sizeLine_eq]; simp; omega)]
  refine wpAny_bind (wpAny_rule ?_)
  refine wpAny_bind (wpAny_mkBytes ?_ (by rw [Array.size_replicate, sizeLine_eq]; omega))
  refine bm_if_true (by decide) ?_
  first
    | exact wpAny_pure (hQ _ _)
    | exact wpAny_bind (wpAny_pure (wpAny_pure (hQ _ _)))
theorem call_bytes_count {n : Int} {u : Tok} {Q : Value → Shared → Prop} (h0 : 0 ≤ n) (h1 : n ≤ 1000) (hQ : ∀ t k, Q (.bytes (Array.replicate n.toNat 0) t) { s with toks := k }) : wpAny (model prog w) A (call (.type "bytes") [.int n u]) Q E s := by
  refine callType_codes (Q₁ := fun obj s₁ => s₁.TypeIs obj "bytes" ∧ Q obj s₁) PySem.F.bm_called (PySem.F.bm_typeCall _) PySem.F.entry_object_init
    (bn_new h0 h1 fun t k => ⟨PySem.W.typeIs_bytes _ _ _, hQ t k⟩) fun obj s₁ h₁ => ?_
  exact ⟨h₁.1, PySem.F.args_object_init_2 obj _, object_init_meets PySem.F.bm_called.init.lookup PySem.F.bm_called.made (by decide) prog w A.in1 _ s₁ ⟨h₁.1, rfl, h₁.2⟩⟩
theorem ints_zero (n : Nat) : KBw.bInts (Array.replicate n 0) = List.replicate n 0 := by
  unfold KBw.bInts
  rw [Array.toList_replicate, List.map_replicate]; rfl
end
end
/-! part: LawA -/
section
/-! the plain law, first part: pieces, holes, told octets -/
def seg (b : Int) : List Int → List (Int × Int)
  | [] => []
  | v :: l => (b, v) :: seg (b + 1) l
def PL (parts : List (Int × List Int)) : List (Int × Int) := parts.flatMap (fun p => seg p.1 p.2)
def inRows (rows : List (Int × Int)) (p : Int) : Prop := ∃ r ∈ rows, r.1 ≤ p ∧ p < r.2
theorem mem_seg {b k v : Int} {l : List Int} : (k, v) ∈ seg b l ↔ ∃ i : Nat, l[i]? = some v ∧ k = b + i := by
  induction l generalizing b with
  | nil => simp [seg]
  | cons a l ih =>
    simp only [seg, List.mem_cons, Prod.mk.injEq, ih]
    constructor
    · rintro (⟨rfl, rfl⟩ | ⟨i, h, e⟩)
      · exact ⟨0, rfl, by omega⟩
      · exact ⟨i + 1, by simpa using h, by omega⟩
    · rintro ⟨i, h, e⟩
      cases i with
      | zero => simp at h; exact .inl ⟨by omega, h.symm⟩
      | succ i => exact .inr ⟨i, by simpa using h, by omega⟩
theorem seg_length (b : Int) (l : List Int) : (seg b l).length = l.length := by
  induction l generalizing b with
  | nil => rfl
  | cons a l ih => simp [seg, ih]
theorem seg_snd (b : Int) (l : List Int) : (seg b l).map (·.2) = l := by
  induction l generalizing b with
  | nil => rfl
  | cons a l ih => simp [seg, ih]
theorem seg_keys {b k : Int} {l : List Int} : k ∈ (seg b l).map (·.1) ↔ b ≤ k ∧ k < b + l.length := by
  constructor
  · intro h
    obtain ⟨⟨k', v⟩, h1, rfl⟩ := List.mem_map.mp h
    obtain ⟨i, hi, rfl⟩ := mem_seg.mp h1
    have := (List.getElem?_eq_some_iff.mp hi).1
    dsimp only; omega
  · rintro ⟨h1, h2⟩
    have hi : (k - b).toNat < l.length := by omega
    exact List.mem_map.mpr ⟨(k, l[(k - b).toNat]), mem_seg.mpr ⟨(k - b).toNat, by simp [hi], by omega⟩, rfl⟩
theorem seg_sorted (b : Int) (l : List Int) : ((seg b l).map (·.1)).Pairwise (· < ·) := by
  induction l generalizing b with
  | nil => exact .nil
  | cons a l ih =>
    rw [seg, List.map_cons]
    refine .cons (fun k hk => ?_) (ih _)
    have := (seg_keys.mp hk).1
    dsimp only; omega
theorem PL_append (a c : List (Int × List Int)) : PL (a ++ c) = PL a ++ PL c := by simp [PL]
theorem PL_snd (a : List (Int × List Int)) : (PL a).map (·.2) = (a.map (·.2)).flatten := by
  induction a with
  | nil => rfl
  | cons p a ih => 
    show ((seg p.1 p.2) ++ PL a).map (·.2) = _
    rw [List.map_append, seg_snd, ih]; rfl
theorem PL_length (a : List (Int × List Int)) : (PL a).length = ((a.map (·.2)).flatten).length := by rw [← PL_snd, List.length_map]
def Ord (a : List (Int × List Int)) : Prop := a.Pairwise (fun p q => p.1 + (p.2.length : Int) ≤ q.1)
theorem PL_sorted {a : List (Int × List Int)} (h : Ord a) : ((PL a).map (·.1)).Pairwise (· < ·) := by
  induction a with
  | nil => exact .nil
  | cons p a ih =>
    show (((seg p.1 p.2) ++ PL a).map (·.1)).Pairwise (· < ·)
    rw [List.map_append, List.pairwise_append]
    rw [Ord, List.pairwise_cons] at h
    refine ⟨seg_sorted _ _, ih h.2, fun k hk k' hk' => ?_⟩
    have h1 := (seg_keys.mp hk).2
    obtain ⟨q, hq, rfl⟩ := List.mem_map.mp hk'
    obtain ⟨p', hp', hq'⟩ := List.mem_flatMap.mp hq
    have h2 := (seg_keys.mp (List.mem_map.mpr ⟨q, hq', rfl⟩)).1
    have h3 := h.1 p' hp'
    omega
theorem lt_nodup {l : List Int} (h : l.Pairwise (· < ·)) : l.Nodup := h.imp (fun h => Int.ne_of_lt h)
/-- the holes: apart, in order, within 64 -/
def Sep (rows : List (Int × Int)) : Prop := rows.Pairwise (fun r q => r.2 < q.1) ∧ ∀ r ∈ rows, 0 ≤ r.1 ∧ r.1 < r.2 ∧ r.2 ≤ 64
theorem mx_spec (lo b : Int) : (mx lo b = lo ∧ b ≤ lo) ∨ (mx lo b = b ∧ lo < b) := by unfold mx; split <;> omega
theorem mn_spec (hi e : Int) : (mn hi e = hi ∧ hi ≤ e) ∨ (mn hi e = e ∧ e < hi) := by unfold mn; split <;> omega
theorem restOf_sub {b e : Int} {r x : Int × Int} (hr : r.1 < r.2) (h : x ∈ restOf b e r) : (r.1 ≤ x.1 ∧ x.1 < x.2 ∧ x.2 ≤ r.2) ∧ ∀ p, x.1 ≤ p → p < x.2 → ¬ (b ≤ p ∧ p < e) := by
  have m1 := mx_spec r.1 b
  have m2 := mn_spec r.2 e
  unfold restOf at h
  split at h
  · obtain rfl := List.mem_singleton.mp h
    exact ⟨by omega, fun p _ _ => by omega⟩
  · rcases List.mem_append.mp h with h | h
    · split at h
      · obtain rfl := List.mem_singleton.mp h
        exact ⟨by dsimp only; omega, fun p a c => by dsimp only at a c; omega⟩
      · cases h
    · split at h
      · obtain rfl := List.mem_singleton.mp h
        exact ⟨by dsimp only; omega, fun p a c => by dsimp only at a c; omega⟩
      · cases h
theorem foundOf_sub {b e : Int} {r x : Int × Int} (h : x ∈ foundOf b e r) : r.1 ≤ x.1 ∧ x.1 < x.2 ∧ x.2 ≤ r.2 ∧ b ≤ x.1 ∧ x.2 ≤ e := by
  have m1 := mx_spec r.1 b
  have m2 := mn_spec r.2 e
  unfold foundOf at h
  split at h
  · cases h
  · obtain rfl := List.mem_singleton.mp h
    dsimp only; omega
theorem Sep.rest {rows : List (Int × Int)} (h : Sep rows) (b e : Int) : Sep (rows.flatMap (restOf b e)) := by
  refine ⟨List.pairwise_flatMap.mpr ⟨fun r hr => ?_, ?_⟩, fun x hx => ?_⟩
  · have := h.2 r hr
    have m1 := mx_spec r.1 b
    have m2 := mn_spec r.2 e
    unfold restOf
    split
    · exact List.pairwise_singleton _ _
    · rw [List.pairwise_append]
      refine ⟨?_, ?_, ?_⟩
      · split
        · exact List.pairwise_singleton _ _
        · exact .nil
      · split
        · exact List.pairwise_singleton _ _
        · exact .nil
      · intro x hx y hy
        split at hx
        · obtain rfl := List.mem_singleton.mp hx
          split at hy
          · obtain rfl := List.mem_singleton.mp hy
            dsimp only; omega
          · cases hy
        · cases hx
  · refine h.1.imp_of_mem fun {r q} hr hq hrq x hx y hy => ?_
    have h1 := (restOf_sub (h.2 r hr).2.1 hx).1
    have h2 := (restOf_sub (h.2 q hq).2.1 hy).1
    omega
  · obtain ⟨r, hr, hx⟩ := List.mem_flatMap.mp hx
    have h1 := (restOf_sub (h.2 r hr).2.1 hx).1
    have := h.2 r hr
    omega
theorem Sep.found {rows : List (Int × Int)} (h : Sep rows) (b e : Int) : Sep (rows.flatMap (foundOf b e)) := by
  refine ⟨List.pairwise_flatMap.mpr ⟨fun r hr => ?_, ?_⟩, fun x hx => ?_⟩
  · unfold foundOf
    split
    · exact .nil
    · exact List.pairwise_singleton _ _
  · refine h.1.imp_of_mem fun {r q} hr hq hrq x hx y hy => ?_
    have h1 := foundOf_sub hx
    have h2 := foundOf_sub hy
    omega
  · obtain ⟨r, hr, hx⟩ := List.mem_flatMap.mp hx
    have h1 := foundOf_sub hx
    have := h.2 r hr
    omega
theorem in_rest {rows : List (Int × Int)} (h : Sep rows) (b e p : Int) : inRows (rows.flatMap (restOf b e)) p ↔ inRows rows p ∧ ¬ (b ≤ p ∧ p < e) := by
  constructor
  · rintro ⟨x, hx, hp⟩
    obtain ⟨r, hr, hx⟩ := List.mem_flatMap.mp hx
    have h1 := restOf_sub (h.2 r hr).2.1 hx
    exact ⟨⟨r, hr, by omega⟩, h1.2 p hp.1 hp.2⟩
  · rintro ⟨⟨r, hr, hp⟩, hn⟩
    have h1 := h.2 r hr
    have m1 := mx_spec r.1 b
    have m2 := mn_spec r.2 e
    have key : ∃ x ∈ restOf b e r, x.1 ≤ p ∧ p < x.2 := by
      unfold restOf
      by_cases hc : mn r.2 e ≤ mx r.1 b
      · rw [if_pos hc]; exact ⟨r, List.mem_singleton.mpr rfl, hp⟩
      · rw [if_neg hc]
        by_cases hb : p < b
        · exact ⟨(r.1, mx r.1 b), List.mem_append_left _ (by rw [if_pos (by omega)]; exact List.mem_singleton.mpr rfl), by dsimp only; omega⟩
        · exact ⟨(mn r.2 e, r.2), List.mem_append_right _ (by rw [if_pos (by omega)]; exact List.mem_singleton.mpr rfl), by dsimp only; omega⟩
    obtain ⟨x, hx, hxp⟩ := key
    exact ⟨x, List.mem_flatMap.mpr ⟨r, hr, hx⟩, hxp⟩
theorem in_found {rows : List (Int × Int)} (b e p : Int) : inRows (rows.flatMap (foundOf b e)) p ↔ inRows rows p ∧ (b ≤ p ∧ p < e) := by
  constructor
  · rintro ⟨x, hx, hp⟩
    obtain ⟨r, hr, hx⟩ := List.mem_flatMap.mp hx
    have h1 := foundOf_sub hx
    exact ⟨⟨r, hr, by omega⟩, by omega⟩
  · rintro ⟨⟨r, hr, hp⟩, hn⟩
    have m1 := mx_spec r.1 b
    have m2 := mn_spec r.2 e
    refine ⟨(mx r.1 b, mn r.2 e), List.mem_flatMap.mpr ⟨r, hr, ?_⟩, ?_⟩
    · unfold foundOf
      rw [if_neg (by omega)]
      exact List.mem_singleton.mpr rfl
    · dsimp only; omega
theorem Sep.length {rows : List (Int × Int)} (h : Sep rows) : rows.length ≤ 64 := by
  have : ∀ (rows : List (Int × Int)) (c : Int), c ≤ 64 → rows.Pairwise (fun r q => r.2 < q.1) → (∀ r ∈ rows, c ≤ r.1 ∧ r.1 < r.2 ∧ r.2 ≤ 64) → (rows.length : Int) ≤ 64 - c := by
    intro rows
    induction rows with
    | nil => intro c hc _ _; simp; omega
    | cons r rs ih =>
      intro c hc hp ha
      rw [List.pairwise_cons] at hp
      have h1 := ha r (.head _)
      have h2 := ih r.2 h1.2.2 hp.2 fun q hq => ⟨Int.le_of_lt (hp.1 q hq), (ha q (.tail _ hq)).2⟩
      simp only [List.length_cons]
      omega
  have h1 := this rows 0 (by decide) h.1 fun r hr => h.2 r hr
  omega
theorem reach_iff {rows : List (Int × Int)} (h : Sep rows) {e : Int} (he : 0 ≤ e) : reachF 64 rows > e ↔ ∃ p, e ≤ p ∧ p < 64 ∧ ¬ inRows rows p := by
  rcases List.eq_nil_or_concat rows with rfl | ⟨init, r, rfl⟩
  · rw [show reachF 64 [] = 64 from rfl]
    exact ⟨fun h => ⟨e, by omega, by omega, fun ⟨_, h, _⟩ => nomatch h⟩, fun ⟨p, a, b, _⟩ => by omega⟩
  · have hr := h.2 r (by simp)
    have hp := (List.pairwise_append.mp (List.concat_eq_append ▸ h.1)).2.2
    have e1 : reachF 64 (init.concat r) = if r.2 = 64 then r.1 else 64 := by simp [reachF]
    rw [e1]
    constructor
    · intro h1
      split at h1
      · refine ⟨r.1 - 1, by omega, by omega, ?_⟩
        rintro ⟨q, hq, h2⟩
        rw [List.concat_eq_append] at hq
        rcases List.mem_append.mp hq with hq | hq
        · have := hp q hq r (by simp); omega
        · obtain rfl := List.mem_singleton.mp hq; omega
      · refine ⟨63, by omega, by omega, ?_⟩
        rintro ⟨q, hq, h2⟩
        rw [List.concat_eq_append] at hq
        rcases List.mem_append.mp hq with hq | hq
        · have := hp q hq r (by simp); omega
        · obtain rfl := List.mem_singleton.mp hq; omega
    · rintro ⟨p, h1, h2, h3⟩
      split
      · rcases Int.lt_or_le p r.1 with h4 | h4
        · omega
        · exact absurd ⟨r, by simp, h4, by omega⟩ h3
      · omega
theorem mem_setd {T : List (Int × Int)} {b v : Int} {q : Int × Int} : q ∈ setd T b v ↔ q ∈ T ∨ (q = (b, v) ∧ b ∉ T.map (·.1)) := by
  unfold setd
  by_cases h : b ∈ T.map (·.1)
  · have : T.any (fun q => decide (q.1 = b)) = true := by
      obtain ⟨q', h1, h2⟩ := List.mem_map.mp h
      exact List.any_eq_true.mpr ⟨q', h1, by simpa using h2⟩
    rw [if_pos this]
    exact ⟨.inl, fun h' => h'.elim id fun x => absurd h x.2⟩
  · have : ¬ T.any (fun q => decide (q.1 = b)) = true := fun h' => by
      obtain ⟨q', h1, h2⟩ := List.any_eq_true.mp h'
      exact h (List.mem_map.mpr ⟨q', h1, by simpa using h2⟩)
    rw [if_neg this, List.mem_append, List.mem_singleton]
    exact ⟨fun h' => h'.imp id fun x => ⟨x, h⟩, fun h' => h'.imp id fun x => x.1⟩
theorem setd_keys {T : List (Int × Int)} {b v k : Int} : k ∈ (setd T b v).map (·.1) ↔ k ∈ T.map (·.1) ∨ k = b := by
  constructor
  · intro h
    obtain ⟨q, h1, rfl⟩ := List.mem_map.mp h
    rcases mem_setd.mp h1 with h1 | ⟨rfl, _⟩
    · exact .inl (List.mem_map.mpr ⟨q, h1, rfl⟩)
    · exact .inr rfl
  · rintro (h | rfl)
    · obtain ⟨q, h1, rfl⟩ := List.mem_map.mp h
      exact List.mem_map.mpr ⟨q, mem_setd.mpr (.inl h1), rfl⟩
    · by_cases h : k ∈ T.map (·.1)
      · obtain ⟨q, h1, rfl⟩ := List.mem_map.mp h
        exact List.mem_map.mpr ⟨q, mem_setd.mpr (.inl h1), rfl⟩
      · exact List.mem_map.mpr ⟨(k, v), mem_setd.mpr (.inr ⟨rfl, h⟩), rfl⟩
theorem setd_nodup {T : List (Int × Int)} {b v : Int} (h : (T.map (·.1)).Nodup) : ((setd T b v).map (·.1)).Nodup := by
  unfold setd
  split
  · exact h
  · rename_i hc
    rw [List.map_append, List.nodup_append]
    refine ⟨h, by simp, fun a ha c hcc => ?_⟩
    obtain rfl := by simpa using hcc
    rintro rfl
    obtain ⟨q', h1, h2⟩ := List.mem_map.mp ha
    exact hc (List.any_eq_true.mpr ⟨q', h1, by simpa using h2⟩)
theorem mem_tkn {l : List Int} : ∀ {T : List (Int × Int)} {b : Int} {q : Int × Int}, q ∈ tkn T b l ↔ q ∈ T ∨ (q ∈ seg b l ∧ q.1 ∉ T.map (·.1)) := by
  induction l with
  | nil => intro T b q; simp [tkn, seg]
  | cons v l ih =>
    intro T b q
    rw [tkn, ih, mem_setd, setd_keys, seg, List.mem_cons]
    constructor
    · rintro ((h | ⟨rfl, h⟩) | ⟨h1, h2⟩)
      · exact .inl h
      · exact .inr ⟨.inl rfl, h⟩
      · exact .inr ⟨.inr h1, fun h => h2 (.inl h)⟩
    · rintro (h | ⟨rfl | h1, h2⟩)
      · exact .inl (.inl h)
      · exact .inl (.inr ⟨rfl, h2⟩)
      · refine .inr ⟨h1, fun h => h.elim h2 fun e => ?_⟩
        have := (seg_keys.mp (List.mem_map.mpr ⟨q, h1, rfl⟩)).1
        omega
theorem tkn_nodup {l : List Int} : ∀ {T : List (Int × Int)} {b : Int}, (T.map (·.1)).Nodup → ((tkn T b l).map (·.1)).Nodup := by
  induction l with
  | nil => intro T b h; exact h
  | cons v l ih => intro T b h; exact ih (setd_nodup h)
theorem tkn_keys {l : List Int} {T : List (Int × Int)} {b k : Int} : k ∈ (tkn T b l).map (·.1) ↔ k ∈ T.map (·.1) ∨ (b ≤ k ∧ k < b + l.length) := by
  rw [← seg_keys]
  constructor
  · intro h
    obtain ⟨q, h1, rfl⟩ := List.mem_map.mp h
    rcases mem_tkn.mp h1 with h1 | ⟨h1, _⟩
    · exact .inl (List.mem_map.mpr ⟨q, h1, rfl⟩)
    · exact .inr (List.mem_map.mpr ⟨q, h1, rfl⟩)
  · by_cases hk : k ∈ T.map (·.1)
    · intro _
      obtain ⟨q, h1, rfl⟩ := List.mem_map.mp hk
      exact List.mem_map.mpr ⟨q, mem_tkn.mpr (.inl h1), rfl⟩
    · rintro (h | h)
      · exact absurd h hk
      · obtain ⟨q, h1, rfl⟩ := List.mem_map.mp h
        exact List.mem_map.mpr ⟨q, mem_tkn.mpr (.inr ⟨h1, hk⟩), rfl⟩
theorem cut_seg {b k v : Int} {pay : List Int} {r : Int × Int} (h1 : b ≤ r.1) (h2 : r.1 < r.2) (h3 : r.2 ≤ b + pay.length) : (k, v) ∈ seg (cutOf b pay r).1 (cutOf b pay r).2 ↔ (r.1 ≤ k ∧ k < r.2) ∧ (k, v) ∈ seg b pay := by
  unfold cutOf
  dsimp only
  have c1 : clipAt pay.length (r.1 - b) = (r.1 - b).toNat := by
    have := clipAt_nat pay.length (r.1 - b).toNat
    rw [show ((r.1 - b).toNat : Int) = r.1 - b by omega] at this
    rw [this]; omega
  have c2 : clipAt pay.length (r.2 - b) = (r.2 - b).toNat := by
    have := clipAt_nat pay.length (r.2 - b).toNat
    rw [show ((r.2 - b).toNat : Int) = r.2 - b by omega] at this
    rw [this]; omega
  rw [c1, c2, mem_seg, mem_seg]
  constructor
  · rintro ⟨i, hi, rfl⟩
    rw [List.getElem?_take] at hi
    split at hi
    · rw [List.getElem?_drop] at hi
      exact ⟨by omega, (r.1 - b).toNat + i, hi, by omega⟩
    · cases hi
  · rintro ⟨hk, i, hi, rfl⟩
    refine ⟨(b + i - r.1).toNat, ?_, by omega⟩
    rw [List.getElem?_take, if_pos (by omega), List.getElem?_drop]
    rw [show (r.1 - b).toNat + (b + (i : Int) - r.1).toNat = i by omega]; exact hi
theorem cut_length {b : Int} {pay : List Int} {r : Int × Int} (h1 : b ≤ r.1) (h2 : r.1 < r.2) (h3 : r.2 ≤ b + pay.length) : ((cutOf b pay r).2.length : Int) = r.2 - r.1 := by
  unfold cutOf
  dsimp only
  have c1 : clipAt pay.length (r.1 - b) = (r.1 - b).toNat := by
    have := clipAt_nat pay.length (r.1 - b).toNat
    rw [show ((r.1 - b).toNat : Int) = r.1 - b by omega] at this
    rw [this]; omega
  have c2 : clipAt pay.length (r.2 - b) = (r.2 - b).toNat := by
    have := clipAt_nat pay.length (r.2 - b).toNat
    rw [show ((r.2 - b).toNat : Int) = r.2 - b by omega] at this
    rw [this]; omega
  rw [c1, c2, List.length_take, List.length_drop]; omega
end
/-! part: LawB -/
section
/-! the plain law, second part: what holds between the turns -/
theorem perm_of {l r : List (Int × Int)} (hl : (l.map (·.1)).Nodup) (hr : (r.map (·.1)).Nodup) (h : ∀ q, q ∈ l ↔ q ∈ r) : l.Perm r := by
  have of : ∀ l : List (Int × Int), (l.map (·.1)).Nodup → l.Nodup := fun l hl => (List.pairwise_map.mp hl).imp fun h e => h (congrArg _ e)
  exact (List.perm_ext_iff_of_nodup (of _ hl) (of _ hr)).mpr h
theorem getI_some {T : List (Int × Int)} (h : (T.map (·.1)).Nodup) {k v : Int} (hm : (k, v) ∈ T) : getI T k = some v := by
  induction T with
  | nil => cases hm
  | cons q T ih =>
    rw [List.map_cons, List.nodup_cons] at h
    unfold getI
    by_cases hq : q.1 = k
    · rw [List.find?_cons_of_pos (by simpa using hq)]
      rcases List.mem_cons.mp hm with rfl | hm
      · rfl
      · exact absurd (List.mem_map.mpr ⟨_, hm, hq.symm⟩) h.1
    · rw [List.find?_cons_of_neg (by simpa using hq)]
      rcases List.mem_cons.mp hm with rfl | hm
      · exact absurd rfl hq
      · exact ih h.2 hm
theorem hasI_iff {T : List (Int × Int)} {k : Int} : hasI T k = true ↔ k ∈ T.map (·.1) := by
  unfold hasI getI
  rw [Option.isSome_map, List.find?_isSome]
  constructor
  · rintro ⟨q, hq, e⟩; exact List.mem_map.mpr ⟨q, hq, by simpa using e⟩
  · intro h; obtain ⟨q, hq, e⟩ := List.mem_map.mp h; exact ⟨q, hq, by simpa using e⟩
structure Inv (d : DS) (T : List (Int × Int)) : Prop where
  sep : Sep d.rows
  cov : ∀ p, 0 ≤ p → p < 64 → (¬ inRows d.rows p ↔ (p ∈ T.map (·.1) ∨ ∃ f, d.fin = some f ∧ f ≤ p))
  nd : (T.map (·.1)).Nodup
  pnd : ((PL d.parts).map (·.1)).Nodup
  same : ∀ q, q ∈ PL d.parts ↔ q ∈ T
  ne : ∀ p ∈ d.parts, p.2 ≠ []
  rng : ∀ p ∈ T.map (·.1), 0 ≤ p ∧ p < 64 ∧ p ≠ 44
  fin : ∀ f, d.fin = some f → 0 ≤ f ∧ f ≤ 64 ∧ ∀ p ∈ T.map (·.1), p < f
  size : d.size = T.length
  oct : ∀ q ∈ T, 0 ≤ q.2 ∧ q.2 < 256
theorem Inv.init : Inv ⟨[(0, 64)], [], none, none, 0, 0⟩ [] where
  sep := ⟨List.pairwise_singleton _ _, by simp⟩
  cov := fun p h1 h2 => ⟨fun h => absurd ⟨(0, 64), by simp, h1, h2⟩ h, fun h => by simp at h⟩
  nd := .nil
  pnd := .nil
  same := fun q => by simp [PL]
  ne := by simp
  rng := by simp
  fin := by simp
  size := rfl
  oct := by simp
theorem Inv.denied {d : DS} {T : List (Int × Int)} (I : Inv d T) {e : Int} (he : 0 ≤ e) (more : Bool) : againstF d.rows d.fin d.ahead e more = deniedF T d.fin d.ahead e more := by
  unfold againstF deniedF
  split
  · rfl
  · split
    · rfl
    · cases hf : d.fin with
      | some f => rfl
      | none =>
        dsimp only
        rw [Bool.and_comm (decide (d.ahead ≥ e))]
        congr 1
        rw [Bool.eq_iff_iff, decide_eq_true_eq, reach_iff I.sep he, List.any_eq_true]
        constructor
        · rintro ⟨p, h1, h2, h3⟩
          rcases (I.cov p (by omega) h2).mp h3 with h4 | ⟨f, h4, _⟩
          · obtain ⟨q, hq, rfl⟩ := List.mem_map.mp h4
            exact ⟨q, hq, by simpa using h1⟩
          · rw [hf] at h4; cases h4
        · rintro ⟨q, hq, h1⟩
          have hm : q.1 ∈ T.map (·.1) := List.mem_map.mpr ⟨q, hq, rfl⟩
          have := I.rng _ hm
          exact ⟨q.1, by simpa using h1, this.2.1, (I.cov _ this.1 this.2.1).mpr (.inl hm)⟩
/-- the pieces that a put keeps -/
theorem found_ord {rows : List (Int × Int)} (h : Sep rows) {b : Int} {pay : List Int} : Ord ((rows.flatMap (foundOf b (b + (pay.length : Int)))).map (cutOf b pay)) := by
  unfold Ord
  rw [List.pairwise_map]
  refine (h.found b _).1.imp_of_mem fun {r q} hr hq hrq => ?_
  obtain ⟨r', _, hr'⟩ := List.mem_flatMap.mp hr
  have h1 := foundOf_sub hr'
  rw [cut_length h1.2.2.2.1 h1.2.1 h1.2.2.2.2]
  show r.1 + (r.2 - r.1) ≤ q.1
  omega
theorem found_mem {rows : List (Int × Int)} {b : Int} {pay : List Int} {q : Int × Int} : q ∈ PL ((rows.flatMap (foundOf b (b + (pay.length : Int)))).map (cutOf b pay)) ↔ inRows rows q.1 ∧ q ∈ seg b pay := by
  obtain ⟨k, v⟩ := q
  constructor
  · intro h
    obtain ⟨p, hp, hq⟩ := List.mem_flatMap.mp h
    obtain ⟨r, hr, rfl⟩ := List.mem_map.mp hp
    obtain ⟨r', h0, hr'⟩ := List.mem_flatMap.mp hr
    have h1 := foundOf_sub hr'
    have h2 := (cut_seg h1.2.2.2.1 h1.2.1 h1.2.2.2.2).mp hq
    exact ⟨⟨r', h0, by dsimp only; omega⟩, h2.2⟩
  · rintro ⟨h1, h2⟩
    have h3 := seg_keys.mp (List.mem_map.mpr ⟨_, h2, rfl⟩)
    obtain ⟨r, hr, hk⟩ := (in_found b (b + (pay.length : Int)) k).mpr ⟨h1, h3⟩
    obtain ⟨r', _, hr'⟩ := List.mem_flatMap.mp hr
    have h1 := foundOf_sub hr'
    exact List.mem_flatMap.mpr ⟨_, List.mem_map.mpr ⟨r, hr, rfl⟩, (cut_seg h1.2.2.2.1 h1.2.1 h1.2.2.2.2).mpr ⟨hk, h2⟩⟩
theorem found_len {rows : List (Int × Int)} {b : Int} {pay : List Int} : ((PL ((rows.flatMap (foundOf b (b + (pay.length : Int)))).map (cutOf b pay))).length : Int) = sumLen (rows.flatMap (foundOf b (b + (pay.length : Int)))) := by
  have : ∀ l : List (Int × Int), (∀ r ∈ l, b ≤ r.1 ∧ r.1 < r.2 ∧ r.2 ≤ b + pay.length) → ((PL (l.map (cutOf b pay))).length : Int) = sumLen l := by
    intro l
    induction l with
    | nil => intro _; rfl
    | cons r l ih =>
      intro h
      have h1 := h r (.head _)
      have h2 := ih fun q hq => h q (.tail _ hq)
      have h3 := cut_length h1.1 h1.2.1 h1.2.2
      show (((seg (cutOf b pay r).1 (cutOf b pay r).2 ++ PL (l.map (cutOf b pay))).length : Nat) : Int) = _
      rw [List.length_append, seg_length]
      simp only [sumLen, List.map_cons, List.sum_cons] at h2 ⊢
      omega
  refine this _ fun r hr => ?_
  obtain ⟨r', _, hr'⟩ := List.mem_flatMap.mp hr
  have h1 := foundOf_sub hr'
  exact ⟨h1.2.2.2.1, h1.2.1, h1.2.2.2.2⟩
theorem Inv.put {d : DS} {T : List (Int × Int)} (I : Inv d T) {b : Int} {pay : List Int} {more : Bool} (hx : Addr) (hb : 0 ≤ b) (h44 : ¬ (b ≤ 44 ∧ 44 < b + (pay.length : Int))) (hp : ∀ v ∈ pay, 0 ≤ v ∧ v < 256)
    (hd : deniedF T d.fin d.ahead (b + (pay.length : Int)) more = false) : Inv (putF d hx more b pay) (tkn T b pay) := by
  have e64 : b + (pay.length : Int) ≤ 64 := by
    unfold deniedF at hd; split at hd
    · cases hd
    · omega
  have hfin : ∀ f, d.fin = some f → b + (pay.length : Int) ≤ f ∧ (more = false → b + (pay.length : Int) = f) := by
    intro f hf
    unfold deniedF at hd
    rw [if_neg (by omega), hf] at hd
    cases more with
    | true => simp at hd; exact ⟨by omega, nofun⟩
    | false => simp at hd; exact ⟨by omega, fun _ => hd⟩
  have hnew : d.fin = none → more = false → ∀ p ∈ T.map (·.1), p < b + (pay.length : Int) := by
    intro hf hm p hp'
    unfold deniedF at hd
    rw [if_neg (by omega), hf, hm] at hd
    simp only [Bool.false_eq_true, if_false, Bool.or_eq_false_iff, List.any_eq_false] at hd
    obtain ⟨q, hq, rfl⟩ := List.mem_map.mp hp'
    have := hd.1 q hq
    simp at this; omega
  have hpart : ∀ p, b ≤ p ∧ p < b + (pay.length : Int) → (inRows d.rows p ↔ p ∉ T.map (·.1)) := by
    intro p hp'
    have hc := I.cov p (by omega) (by omega)
    constructor
    · intro h1 h2; exact hc.mpr (.inl h2) h1
    · intro h1
      refine Classical.byContradiction fun h2 => ?_
      rcases hc.mp h2 with h3 | ⟨f, h3, h4⟩
      · exact h1 h3
      · have := (hfin f h3).1; omega
  have hsame : ∀ q, q ∈ PL (putF d hx more b pay).parts ↔ q ∈ tkn T b pay := by
    intro q
    show q ∈ PL (d.parts ++ _) ↔ _
    rw [PL_append, List.mem_append, found_mem, I.same, mem_tkn]
    constructor
    · rintro (h | ⟨h1, h2⟩)
      · exact .inl h
      · exact .inr ⟨h2, (hpart _ (seg_keys.mp (List.mem_map.mpr ⟨q, h2, rfl⟩))).mp h1⟩
    · rintro (h | ⟨h1, h2⟩)
      · exact .inl h
      · exact .inr ⟨(hpart _ (seg_keys.mp (List.mem_map.mpr ⟨q, h1, rfl⟩))).mpr h2, h1⟩
  have hnd := tkn_nodup (l := pay) (b := b) I.nd
  have hpnd : ((PL (putF d hx more b pay).parts).map (·.1)).Nodup := by
    show ((PL (d.parts ++ _)).map (·.1)).Nodup
    rw [PL_append, List.map_append, List.nodup_append]
    refine ⟨I.pnd, lt_nodup (PL_sorted (found_ord I.sep)), fun k hk k' hk' => ?_⟩
    rintro rfl
    obtain ⟨q, hq, rfl⟩ := List.mem_map.mp hk
    obtain ⟨q', hq', e⟩ := List.mem_map.mp hk'
    obtain ⟨h1, h2⟩ := found_mem.mp hq'
    refine (hpart q'.1 (seg_keys.mp (List.mem_map.mpr ⟨q', h2, rfl⟩))).mp h1 ?_
    rw [e]; exact List.mem_map.mpr ⟨q, (I.same q).mp hq, rfl⟩
  have hkeys : ∀ p, p ∈ (tkn T b pay).map (·.1) ↔ p ∈ T.map (·.1) ∨ (b ≤ p ∧ p < b + (pay.length : Int)) := fun p => tkn_keys
  refine ⟨?_, ?_, hnd, hpnd, hsame, ?_, ?_, ?_, ?_, ?_⟩
  · unfold putF; dsimp only
    split
    · exact I.sep.rest _ _
    · split
      · exact (I.sep.rest _ _).rest _ _
      · exact I.sep.rest _ _
  · intro p h1 h2
    have hc := I.cov p h1 h2
    have hr := in_rest I.sep b (b + (pay.length : Int)) p
    have hr2 := in_rest (I.sep.rest b (b + (pay.length : Int))) (b + (pay.length : Int)) 64 p
    rw [hkeys]
    unfold putF; dsimp only
    cases more with
    | true =>
      simp only [if_true]
      rw [hr]
      constructor
      · intro h
        by_cases hq : b ≤ p ∧ p < b + (pay.length : Int)
        · exact .inl (.inr hq)
        · rcases hc.mp (fun h' => h ⟨h', hq⟩) with h3 | h3
          · exact .inl (.inl h3)
          · exact .inr h3
      · rintro ((h3 | h3) | h3) ⟨h4, h5⟩
        · exact hc.mpr (.inl h3) h4
        · exact h5 h3
        · exact hc.mpr (.inr h3) h4
    | false =>
      simp only [Bool.false_eq_true, if_false]
      cases hf : d.fin with
      | some f =>
        dsimp only
        rw [hr]
        rw [hf] at hc
        constructor
        · intro h
          by_cases hq : b ≤ p ∧ p < b + (pay.length : Int)
          · exact .inl (.inr hq)
          · rcases hc.mp (fun h' => h ⟨h', hq⟩) with h3 | h3
            · exact .inl (.inl h3)
            · exact .inr h3
        · rintro ((h3 | h3) | h3) ⟨h4, h5⟩
          · exact hc.mpr (.inl h3) h4
          · exact h5 h3
          · exact hc.mpr (.inr h3) h4
      | none =>
        dsimp only
        rw [hr2, hr]
        rw [hf] at hc
        constructor
        · intro h
          by_cases hq : b ≤ p ∧ p < b + (pay.length : Int)
          · exact .inl (.inr hq)
          · by_cases hq2 : b + (pay.length : Int) ≤ p
            · exact .inr ⟨_, rfl, hq2⟩
            · rcases hc.mp (fun h' => h ⟨⟨h', hq⟩, by omega⟩) with h3 | ⟨f, h3, _⟩
              · exact .inl (.inl h3)
              · cases h3
        · rintro ((h3 | h3) | ⟨f, h3, h6⟩) ⟨⟨h4, h5⟩, h7⟩
          · exact hc.mpr (.inl h3) h4
          · exact h5 h3
          · cases h3; omega
  · intro p hp'
    rcases List.mem_append.mp hp' with h | h
    · exact I.ne p h
    · obtain ⟨r, hr, rfl⟩ := List.mem_map.mp h
      obtain ⟨r', _, hr'⟩ := List.mem_flatMap.mp hr
      have h1 := foundOf_sub hr'
      have h3 := cut_length h1.2.2.2.1 h1.2.1 h1.2.2.2.2
      intro e
      rw [e] at h3
      simp at h3; omega
  · intro p hp'
    rcases (hkeys p).mp hp' with h | h
    · exact I.rng p h
    · refine ⟨by omega, by omega, ?_⟩
      rintro rfl; exact h44 h
  · intro f hf
    unfold putF at hf; dsimp only at hf
    have old : ∀ f, d.fin = some f → 0 ≤ f ∧ f ≤ 64 ∧ ∀ p ∈ (tkn T b pay).map (·.1), p < f := by
      intro f hf
      have h1 := I.fin f hf
      have h2 := (hfin f hf).1
      refine ⟨h1.1, h1.2.1, fun p hp' => ?_⟩
      rcases (hkeys p).mp hp' with h | h
      · exact h1.2.2 p h
      · omega
    cases more with
    | true => simp only [if_true] at hf; exact old f hf
    | false =>
      simp only [Bool.false_eq_true, if_false] at hf
      cases hf' : d.fin with
      | some f' => rw [hf'] at hf; cases hf; exact old _ hf'
      | none =>
        rw [hf'] at hf
        cases hf
        refine ⟨by omega, e64, fun p hp' => ?_⟩
        rcases (hkeys p).mp hp' with h | h
        · exact hnew hf' rfl p h
        · omega
  · have h1 := (perm_of hpnd hnd hsame).length_eq
    rw [show (putF d hx more b pay).parts = d.parts ++ (d.rows.flatMap (foundOf b (b + (pay.length : Int)))).map (cutOf b pay) from rfl, PL_append, List.length_append] at h1
    have h2 := (perm_of I.pnd I.nd I.same).length_eq
    have h3 := found_len (rows := d.rows) (b := b) (pay := pay)
    have h4 := I.size
    show d.size + sumLen _ = _
    omega
  · intro q hq
    rcases mem_tkn.mp hq with h | ⟨h, _⟩
    · exact I.oct q h
    · obtain ⟨i, hi, _⟩ := mem_seg.mp (show (q.1, q.2) ∈ seg b pay from h)
      exact hp _ (List.mem_of_getElem? hi)
/-- sizes -/
theorem nodup_bound : ∀ (n : Nat) (l : List Int), l.Nodup → (∀ k ∈ l, 0 ≤ k ∧ k < n) → l.length ≤ n
  | 0, l, _, h => by
    cases l with
    | nil => exact Nat.le_refl _
    | cons a l => have := h a (.head _); omega
  | n + 1, l, hn, h => by
    have h1 := nodup_bound n (l.erase (n : Int)) (hn.erase _) fun k hk => by
      have h2 := h k (List.mem_of_mem_erase hk)
      have h3 : k ≠ (n : Int) := fun e => by subst e; exact hn.not_mem_erase hk
      omega
    rw [List.length_erase] at h1
    split at h1 <;> omega
theorem Inv.told64 {d : DS} {T : List (Int × Int)} (I : Inv d T) : T.length < 64 := by
  have h := nodup_bound 64 (44 :: T.map (·.1)) (List.nodup_cons.mpr ⟨fun h => (I.rng _ h).2.2 rfl, I.nd⟩) fun k hk => by
    rcases List.mem_cons.mp hk with rfl | hk
    · omega
    · have := I.rng k hk; omega
  rw [List.length_cons, List.length_map] at h
  omega
theorem Inv.flat {d : DS} {T : List (Int × Int)} (I : Inv d T) : (d.parts.map (·.2)).flatten.length = T.length := by
  rw [← PL_length]; exact (perm_of I.pnd I.nd I.same).length_eq
theorem flat_ge {a : List (Int × List Int)} (h : ∀ p ∈ a, p.2 ≠ []) : a.length ≤ (a.map (·.2)).flatten.length := by
  induction a with
  | nil => exact Nat.le_refl _
  | cons p a ih =>
    have h1 := ih fun q hq => h q (.tail _ hq)
    have h2 := List.length_pos_iff.mpr (h p (.head _))
    simp only [List.map_cons, List.flatten_cons, List.length_append, List.length_cons]
    omega
theorem Inv.parts64 {d : DS} {T : List (Int × Int)} (I : Inv d T) : d.parts.length < 64 := by
  have h1 := flat_ge I.ne
  rw [I.flat] at h1
  exact Nat.lt_of_le_of_lt h1 I.told64
theorem begins_nodup {a : List (Int × List Int)} (h : ∀ p ∈ a, p.2 ≠ []) (hn : ((PL a).map (·.1)).Nodup) : (a.map (·.1)).Nodup := by
  induction a with
  | nil => exact .nil
  | cons p a ih =>
    rw [show PL (p :: a) = seg p.1 p.2 ++ PL a from rfl, List.map_append, List.nodup_append] at hn
    rw [List.map_cons, List.nodup_cons]
    refine ⟨fun hm => ?_, ih (fun q hq => h q (.tail _ hq)) hn.2.1⟩
    obtain ⟨q, hq, e⟩ := List.mem_map.mp hm
    have l1 := List.length_pos_iff.mpr (h p (.head _))
    have l2 := List.length_pos_iff.mpr (h q (.tail _ hq))
    refine hn.2.2 p.1 (seg_keys.mpr ⟨Int.le_refl _, by omega⟩) p.1 ?_ rfl
    obtain ⟨z, hz, e2⟩ := List.mem_map.mp ((seg_keys (b := q.1) (k := p.1) (l := q.2)).mpr ⟨by omega, by omega⟩)
    exact List.mem_map.mpr ⟨z, List.mem_flatMap.mpr ⟨q, hq, hz⟩, e2⟩
/-- the pieces in order -/
theorem ord_of {a : List (Int × List Int)} (h : ∀ p ∈ a, p.2 ≠ []) (hn : ((PL a).map (·.1)).Nodup) (hs : a.Pairwise (fun p q => p.1 < q.1)) : Ord a := by
  induction a with
  | nil => exact .nil
  | cons p a ih =>
    rw [show PL (p :: a) = seg p.1 p.2 ++ PL a from rfl, List.map_append, List.nodup_append] at hn
    rw [List.pairwise_cons] at hs
    refine List.Pairwise.cons (fun q hq => ?_) (ih (fun q hq => h q (.tail _ hq)) hn.2.1 hs.2)
    have l2 := List.length_pos_iff.mpr (h q (.tail _ hq))
    have h1 := hs.1 q hq
    refine Int.not_lt.mp fun hlt => hn.2.2 q.1 (seg_keys.mpr ⟨by omega, hlt⟩) q.1 ?_ rfl
    obtain ⟨z, hz, e2⟩ := List.mem_map.mp ((seg_keys (b := q.1) (k := q.1) (l := q.2)).mpr ⟨by omega, by omega⟩)
    exact List.mem_map.mpr ⟨z, List.mem_flatMap.mpr ⟨q, hq, hz⟩, e2⟩
end
/-! part: LawC -/
section
/-! the plain law, third part: what the law compares -/
theorem perm_PL {a c : List (Int × List Int)} (h : a.Perm c) : (PL a).Perm (PL c) := h.flatMap_right _
theorem sorted_eq {a c : List Int} (hp : a.Perm c) (ha : a.Pairwise (· ≤ ·)) (hc : c.Pairwise (· ≤ ·)) : a = c :=
  hp.eq_of_pairwise (fun _ _ _ _ h1 h2 => Int.le_antisymm h1 h2) ha hc
theorem Inv.op {d : DS} {T : List (Int × Int)} (I : Inv d T) {op : List (Int × List Int)} (hp : op.Perm d.parts) (hs : op.Pairwise (fun a b => a.1 < b.1)) : Ord op ∧ (PL op).Perm T ∧ (∀ p ∈ op, p.2 ≠ []) := by
  have h1 : ∀ p ∈ op, p.2 ≠ [] := fun p h => I.ne p (hp.mem_iff.mp h)
  have h2 := perm_PL hp
  refine ⟨ord_of h1 ((h2.map _).nodup_iff.mpr I.pnd) hs, h2.trans (perm_of I.pnd I.nd I.same), h1⟩
theorem Inv.q2 {d : DS} {T : List (Int × Int)} (I : Inv d T) (op : List (Int × List Int)) (hp : op.Perm d.parts) (hs : op.Pairwise (fun a b => a.1 < b.1)) (ks : List Int) (hk : ks.Perm (T.map (·.1))) (hks : ks.Pairwise (· ≤ ·)) :
    (op.map (·.2)).flatten = ks.map (fun k => (getI T k).getD 0) := by
  obtain ⟨h1, h2, -⟩ := I.op hp hs
  have e : ks = (PL op).map (·.1) := sorted_eq (hk.trans (h2.map _).symm) hks ((PL_sorted h1).imp fun h => Int.le_of_lt h)
  rw [e, List.map_map, ← PL_snd]
  refine List.map_congr_left fun q hq => ?_
  show q.2 = (getI T q.1).getD 0
  rw [getI_some I.nd (show (q.1, q.2) ∈ T from h2.mem_iff.mp hq)]; rfl
def getO (T : List (Int × Int)) (p : Nat) : Int := (getI T (p : Int)).getD 0
theorem row_upto {T : List (Int × Int)} {n : Nat} (h : ∀ o, o < n → hasI T (o : Nat) = true) (hn : hasI T (n : Nat) = false) : ∀ m, rowTo T m = (List.range (min m n)).map (getO T)
  | 0 => by simp [rowTo]
  | m + 1 => by
    rw [rowTo_succ, row_upto h hn m]
    by_cases hm : m < n
    · rw [if_pos (List.all_eq_true.mpr fun o ho => h o (by have := List.mem_range.mp ho; omega)), Nat.min_eq_left (by omega), Nat.min_eq_left (by omega), List.range_succ, List.map_append]; rfl
    · rw [if_neg, Nat.min_eq_right (by omega), Nat.min_eq_right (by omega), List.append_nil]
      intro hc
      have := List.all_eq_true.mp hc n (List.mem_range.mpr (by omega))
      rw [hn] at this; cases this
theorem row_is {T : List (Int × Int)} {n : Nat} (h : ∀ o, o < n → hasI T (o : Nat) = true) (hn : hasI T (n : Nat) = false) (h64 : n ≤ 64) : rowTo T 64 = (List.range n).map (getO T) := by
  rw [row_upto h hn, Nat.min_eq_right h64]
theorem run_row {d : DS} {T : List (Int × Int)} (I : Inv d T) : ∀ (op : List (Int × List Int)) (acc : List Int), Ord op → (∀ p ∈ op, p.2 ≠ []) → (∀ p ∈ op, (acc.length : Int) ≤ p.1) → acc = (List.range acc.length).map (getO T) → (∀ q ∈ PL op, q ∈ T) →
    (∀ k, k ∈ T.map (·.1) ↔ (0 ≤ k ∧ k < (acc.length : Int)) ∨ k ∈ (PL op).map (·.1)) → runF op acc = rowTo T 64 := by
  have base : ∀ acc : List Int, acc = (List.range acc.length).map (getO T) → (∀ k : Int, 0 ≤ k → k < (acc.length : Int) → k ∈ T.map (·.1)) → (acc.length : Int) ∉ T.map (·.1) → acc = rowTo T 64 := by
    intro acc h1 h2 h3
    rw [row_is (n := acc.length) (fun o ho => hasI_iff.mpr (h2 _ (by omega) (by omega))) (by rw [Bool.eq_false_iff]; exact fun h => h3 (hasI_iff.mp h)) ?_]
    · exact h1
    · refine Nat.not_lt.mp fun h => ?_
      have := (I.rng _ (h2 64 (by omega) (by omega))).2.1
      omega
  intro op
  induction op with
  | nil =>
    intro acc _ _ _ h1 _ h2
    refine base acc h1 (fun k a b => (h2 k).mpr (.inl ⟨a, b⟩)) fun h => ?_
    rcases (h2 _).mp h with h | h
    · omega
    · simp [PL] at h
  | cons p op ih =>
    intro acc ho hne hge h1 hm h2
    obtain ⟨b, ks⟩ := p
    have hb := hge _ (.head _)
    have l1 := List.length_pos_iff.mpr (hne _ (.head _))
    dsimp only at hb l1
    rw [runF]
    rw [Ord, List.pairwise_cons] at ho
    split
    · rename_i hc
      refine base acc h1 (fun k a b => (h2 k).mpr (.inl ⟨a, b⟩)) fun h => ?_
      rcases (h2 _).mp h with h | h
      · omega
      · obtain ⟨q, hq, e⟩ := List.mem_map.mp h
        obtain ⟨p', hp', hq'⟩ := List.mem_flatMap.mp hq
        have h3 := (seg_keys.mp (List.mem_map.mpr ⟨q, hq', rfl⟩)).1
        rcases List.mem_cons.mp hp' with rfl | hp'
        · dsimp only at h3; omega
        · have := ho.1 p' hp'; dsimp only at this; omega
    · rename_i hc
      have hb2 : b = (acc.length : Int) := Classical.not_not.mp hc
      refine ih (acc ++ ks) ho.2 (fun q hq => hne q (.tail _ hq)) (fun q hq => ?_) ?_ (fun q hq => hm q (List.mem_append_right _ hq)) (fun k => ?_)
      · have := ho.1 q hq; dsimp only at this; rw [List.length_append]; omega
      · rw [List.length_append, List.range_add, List.map_append, ← h1, List.map_map]
        congr 1
        refine List.ext_getElem (by simp) fun i hi _ => ?_
        have hi2 : (b + (i : Int), ks[i]) ∈ T := hm _ (List.mem_append_left _ (mem_seg.mpr ⟨i, by simp [hi], rfl⟩))
        simp only [List.getElem_map, List.getElem_range, Function.comp_apply, getO]
        rw [show ((acc.length + i : Nat) : Int) = b + (i : Int) by omega, getI_some I.nd hi2]; rfl
      · rw [h2 k, show PL ((b, ks) :: op) = seg b ks ++ PL op from rfl, List.map_append, List.mem_append, seg_keys, List.length_append]
        constructor
        · rintro (h | h | h)
          · exact .inl (by omega)
          · exact .inl (by omega)
          · exact .inr h
        · rintro (h | h)
          · by_cases hk : k < b
            · exact .inl (by omega)
            · exact .inr (.inl (by omega))
          · exact .inr (.inr h)
theorem Inv.q1 {d : DS} {T : List (Int × Int)} (I : Inv d T) (op : List (Int × List Int)) (hp : op.Perm d.parts) (hs : op.Pairwise (fun a b => a.1 < b.1)) : (runF op []).take 8 = (rowTo T 64).take 8 := by
  obtain ⟨h1, h2, h3⟩ := I.op hp hs
  congr 1
  refine run_row I op [] h1 h3 (fun p hp' => ?_) rfl (fun q hq => h2.mem_iff.mp hq) fun k => ?_
  · have l1 := List.length_pos_iff.mpr (h3 p hp')
    obtain ⟨z, hz, e2⟩ := List.mem_map.mp ((seg_keys (b := p.1) (k := p.1) (l := p.2)).mpr ⟨by omega, by omega⟩)
    have := (I.rng p.1 (List.mem_map.mpr ⟨z, h2.mem_iff.mp (List.mem_flatMap.mpr ⟨p, hp', hz⟩), e2⟩)).1
    simpa using this
  · rw [(h2.map (·.1)).mem_iff]
    exact ⟨.inr, fun h => h.elim (fun h => absurd h.2 (by simp; omega)) id⟩
theorem first_missing {P : Nat → Bool} (n : Nat) (h : P n = false) : ∃ m, m ≤ n ∧ (∀ o, o < m → P o = true) ∧ P m = false := by
  induction n with
  | zero => exact ⟨0, Nat.le_refl _, fun o ho => absurd ho (Nat.not_lt_zero _), h⟩
  | succ n ih =>
    by_cases hc : ∀ o, o < n + 1 → P o = true
    · exact ⟨n + 1, Nat.le_refl _, hc, h⟩
    · have : ∃ o, o < n + 1 ∧ P o = false := Classical.byContradiction fun h' => hc fun o ho => by
        cases e : P o with
        | true => rfl
        | false => exact absurd ⟨o, ho, e⟩ h'
      obtain ⟨o, ho, e⟩ := this
      have : ∀ k o, o ≤ k → P o = false → ∃ m, m ≤ k ∧ (∀ i, i < m → P i = true) ∧ P m = false := by
        intro k
        induction k with
        | zero => intro o ho e; obtain rfl : o = 0 := by omega
                  exact ⟨0, Nat.le_refl _, fun i hi => absurd hi (Nat.not_lt_zero _), e⟩
        | succ k ihk =>
          intro o ho e
          by_cases hk : ∃ i, i ≤ k ∧ P i = false
          · obtain ⟨i, hi, ei⟩ := hk
            obtain ⟨m, hm, a, b⟩ := ihk i hi ei
            exact ⟨m, by omega, a, b⟩
          · have : o = k + 1 := Classical.byContradiction fun h' => hk ⟨o, by omega, e⟩
            subst this
            refine ⟨k + 1, Nat.le_refl _, fun i hi => ?_, e⟩
            cases ei : P i with
            | true => rfl
            | false => exact absurd ⟨i, by omega, ei⟩ hk
      obtain ⟨m, hm, a, b⟩ := this (n + 1) o (by omega) e
      exact ⟨m, hm, a, b⟩
theorem Inv.q3 {d : DS} {T : List (Int × Int)} (I : Inv d T) (f : Int) (hf : d.fin = some f) : d.rows.isEmpty = decide (((rowTo T 64).length : Int) = f) := by
  obtain ⟨f0, f64, hlt⟩ := I.fin f hf
  obtain ⟨n, hn, h1, h2⟩ := first_missing (P := fun o => hasI T ((o : Nat) : Int)) 64 (by
    show hasI T 64 = false
    rw [Bool.eq_false_iff]; intro h; have := (I.rng _ (hasI_iff.mp h)).2.1; omega)
  rw [row_is h1 h2 hn, List.length_map, List.length_range]
  have hnf : (n : Int) ≤ f := by
    cases n with
    | zero => exact f0
    | succ n => have := hlt _ (hasI_iff.mp (h1 n (by omega))); omega
  rw [Bool.eq_iff_iff, List.isEmpty_iff, decide_eq_true_eq]
  constructor
  · intro hr
    refine Int.le_antisymm hnf (Int.not_lt.mp fun hc => ?_)
    have := (I.cov (n : Int) (by omega) (by omega)).mp (by rw [hr]; rintro ⟨r, h, _⟩; cases h)
    rcases this with h | ⟨f', e, h⟩
    · have h3 := hasI_iff.mpr h
      rw [h2] at h3; cases h3
    · rw [hf] at e; cases e; omega
  · intro he
    cases hr : d.rows with
    | nil => rfl
    | cons r rs =>
      exfalso
      have hs := I.sep.2 r (by rw [hr]; exact .head _)
      have hin : inRows d.rows r.1 := ⟨r, by rw [hr]; exact .head _, by omega, by omega⟩
      refine (I.cov r.1 (by omega) (by omega)).mpr ?_ hin
      by_cases hc : r.1 < f
      · have h3 := h1 r.1.toNat (by omega)
        rw [show ((r.1.toNat : Nat) : Int) = r.1 by omega] at h3
        exact .inl (hasI_iff.mp h3)
      · exact .inr ⟨f, hf, by omega⟩
end
/-! part: Stands -/
section
open PyProof.Rows.LCg PyProof.Rows.LCt PyProof.Rows.LCp
local macro_rules | `(tactic| walk_at "exec Assign cons ListComp") => `(tactic| (k_here; refine hold ?_))
local macro_rules | `(tactic| walk_at "CompSrcT") => `(tactic| (k_here; refine hold ?_))
local macro_rules | `(tactic| walk_at "compareOp NotIn int ref") => `(tactic| (k_here; refine hold ?_))
local macro_rules | `(tactic| walk_at "call builtin:len") => `(tactic| (k_here; (with_reducible show wpAny _ _ (call (Value.builtin "len") [Value.ref _]) _ _ _); refine hold ?_))
local macro_rules | `(tactic| walk_at "compareOp Eq ref ref") => `(tactic| (k_here; refine eq_nil_list (News.isList (by k_asm) (by k_mem)) (News.isList (by k_asm) (by k_mem)) (by ktr_units) ?_))
local macro_rules | `(tactic| walk_at "eval ListComp") => `(tactic| (k_here; refine hold ?_))
local macro_rules | `(tactic| walk_at "call builtin:sorted") => `(tactic| (k_here; refine hold ?_))
local macro_rules | `(tactic| walk_at "call type:bytes") => `(tactic| (k_here; (with_reducible show wpAny _ _ (call (Value.type "bytes") [Value.ref _]) _ _ _); refine hold ?_))
local macro_rules | `(tactic| walk_at "subscriptTail Name Slice ref ref") => `(tactic| (k_here; refine hold ?_))
local macro_rules | `(tactic| walk_at "compareOp NotEq bytes bytes") => `(tactic| (k_here; refine hold ?_))
theorem ne_int_same {prog : Program} {w : World} {A : Around} {E : Value → Shared → Prop} {s : Shared} {Q : Value → Shared → Prop} {a : Int} {t u : Tok} (q : Q (.bool false) s) : wpAny (model prog w) A (compareOp .NotEq (.int a t) (.int a u)) Q E s := by
  refine ne_int ?_
  rw [show (a != a) = false from by simp]; exact q
theorem ne_bytes_same {prog : Program} {w : World} {A : Around} {E : Value → Shared → Prop} {s : Shared} {Q : Value → Shared → Prop} {b c : Array UInt8} {t u : Tok} (e : KBw.bInts b = KBw.bInts c) (q : Q (.bool false) s) : wpAny (model prog w) A (compareOp .NotEq (.bytes b t) (.bytes c u)) Q E s := by
  refine ne_bytes ?_
  have h : b.toList = c.toList := by
    have hj : ∀ (l r : List UInt8), l.map (fun c => ((c.toNat : Nat) : Int)) = r.map (fun c => ((c.toNat : Nat) : Int)) → l = r := by
      intro l
      induction l with
      | nil => intro r h; cases r with
        | nil => rfl
        | cons => cases h
      | cons x l ih => intro r h; cases r with
        | nil => cases h
        | cons y r =>
          simp only [List.map_cons, List.cons.injEq] at h
          rw [UInt8.toNat_inj.mp (Int.ofNat.inj h.1), ih r h.2]
    exact hj _ _ e
  rw [h, show (c.toList != c.toList) = false from by simp]; exact q
theorem getI_none {T : List (Int × Int)} {k : Int} (h : getI T k = none) : k ∉ T.map (·.1) := by
  intro hm
  obtain ⟨q, hq, e⟩ := List.mem_map.mp hm
  unfold getI at h
  rw [Option.map_eq_none_iff, List.find?_eq_none] at h
  exact h q hq (by simpa using e)
theorem handed_opt {v : Value} {e : Option Int} (h : IsOpt v e) : handedIn v = true := by
  cases e with
  | none => obtain rfl : v = .none := h; rfl
  | some n => obtain ⟨t, rfl⟩ : ∃ t, v = .int n t := h; rfl
theorem handed_ref {v : Value} {e : Option Addr} (h : IsRefOpt v e) : handedIn v = true := by
  cases e with
  | none => obtain rfl : v = .none := h; rfl
  | some n => obtain rfl : v = .ref n := h; rfl
theorem ne_refopt {prog : Program} {w : World} {A : Around} {E : Value → Shared → Prop} {s : Shared} {Q : Value → Shared → Prop} {K : Frag} {C : Addr} {v v' : Value} {e : Option Addr} (X : K.In s.heap) (h : IsRefOpt v e) (h' : IsRefOpt v' e) (hI : ∀ a, e = some a → ∃ ox od, InstAt s.heap a ox C od)
   (he : findIn K (.ref C) "__eq__" = some (some (.builtin "object.__eq__"))) (hn : findIn K (.ref C) "__ne__" = some (some (.builtin "object.__ne__")))
    (hsub : subIn K (.ref C) (.type "object") = some true) (hu : A.units + 1 < cLine) (q : Q (.bool false) s) : wpAny (model prog w) A (compareOp .NotEq v v') Q E s := by
  cases e with
  | none =>
    obtain rfl : v = .none := h
    obtain rfl : v' = .none := h'
    exact EqNone.ne_none_none q
  | some a =>
    obtain rfl : v = .ref a := h
    obtain rfl : v' = .ref a := h'
    obtain ⟨ox, od, I⟩ := hI a rfl
    exact ne_same_K X I he hn hsub hu q
local macro_rules | `(tactic| walk_at "compareOp NotEq") => `(tactic| (k_here; first | refine ne_opt (by assumption) (by assumption) ?_ | refine hold ?_))
local macro_rules | `(tactic| walk_at "subscriptTail Name Name ref int") => `(tactic| (k_here; refine hold ?_))
local macro_rules | `(tactic| walk_at "compareOp NotEq int int") => `(tactic| (k_here; refine ne_int_same ?_))
local macro_rules | `(tactic| k_handed) => `(tactic| with_reducible assumption)
set_option maxHeartbeats 40000000 in
theorem stands_ctr {w : World} {mean : ExcName → Option Value} {mg mb : PySem.Str → Option Value} {x dx y dy rl pl rc oc : Addr} {od oy ro oo : Obj} {nr np : Nat} {led led' : List (Addr × Obj)} {endv fv ev fv2 : Value} {fin : Option Int} {fst : Option Addr} {ahead ahead2 size : Int}
   {rowVals pvs : List Value} {rows : List (Int × Int)} {parts : List (Int × List Int)} {kvs : List (Int × Value)} {told : List (Int × Int)}
   (hx : (x, instObj 177 dx) ∈ led) (hdx : (dx, od) ∈ led) (hod : IsDgram od y pl endv ahead fv size) (hf : IsOpt endv fin) (hg : IsRefOpt fv fst) (hy : (y, instObj 123 dy) ∈ led) (hdy : (dy, oy) ∈ led) (hoy : IsHoles oy 64 rl) (hl : (rl, listOf rowVals.toArray nr) ∈ led) (hp : PairsIn led' rowVals rows)
   (hpl : (pl, listOf pvs.toArray np) ∈ led) (hpp : PartsIn led' pvs parts) (hs : ∀ p ∈ led', p ∈ led)
   (hrc : (rc, ro) ∈ led) (hro : RecIs w ro oc ev fv2 ahead2) (hf2 : IsOpt ev fin) (hg2 : IsRefOpt fv2 fst)
   (hoc : (oc, oo) ∈ led) (hoo : Obj.IsDictOf (PySem.intKind PySem.Challenge.rw_on0344_01.row.prog w) oo kvs) (hkv : KvIs kvs told) (hs1 : (rc == sysModules) = false) (hs2 : (oc == sysModules) = false) (hn : told.length < 1000) (hfa : ∀ fa, fst = some fa → ∃ fd ofd, (fa, instObj 74 fd) ∈ led ∧ (fd, ofd) ∈ led) (hz : size = told.length)
   (hnd : (parts.map (·.1)).Nodup) (h64 : parts.length < 64) (hz2 : (parts.map (·.2)).flatten.length < 1000) (h64t : told.length < 64) (h256 : ∀ p ∈ told, 0 ≤ p.2 ∧ p.2 < 256)
   (q1 : ∀ op : List (Int × List Int), op.Perm parts → op.Pairwise (fun a b => a.1 < b.1) → (runF op []).take 8 = (rowTo told 64).take 8)
   (q2 : ∀ op : List (Int × List Int), op.Perm parts → op.Pairwise (fun a b => a.1 < b.1) → ∀ ks : List Int, ks.Perm (told.map (·.1)) → ks.Pairwise (· ≤ ·) → (op.map (·.2)).flatten = ks.map (fun k => (getI told k).getD 0))
   (q3 : ∀ f, fin = some f → fst.isSome = true → rows.isEmpty = decide (((rowTo told 64).length : Int) = f)) :
   Ctr w mean mg mb 309 [.ref x, .ref rc] led 8 64 (fun r nx => nx = led ∧ r = .bool true) := by
  obtain ⟨g1, g2, g3, g4, g5, g6, g7, g8, k1, k2, k3, k4, k5, k6, k7, k8, bv, t2, t6, t8, rfl⟩ := hod
  obtain ⟨ta, hro⟩ := hro
  subst hz
  unfold Ctr
  k_fill
  intro dp un gd cn cs ca ccd cl outer A₀ base h₀ L m s Q E B F X N T hk hd hu hret
  have hv1 : handedIn endv = true := handed_opt hf
  have hv2 : handedIn fv = true := handed_ref hg
  (refine wpAny_call ?_; k_dflt (refine' code_defC ?k1 ?k2 ?k3 ?k4 ?k5 ?kA ?kF ?kK ?k6 ?k7 ?k8 ?k9 ?kB ?kD ?_ ?c2 ?c3 ?c4; (case kA => exact rfl); (case kF => exact rfl); (case kK => assumption); (case k1 => k_asm); (case k2 => k_asm); (case k3 => k_asm); (case k4 => k_asm); (case k5 => k_asm); (case k6 => k_is); (case k7 => k_is); (case k8 => ktr_room); (case k9 => exact BindsTo.of_eq rfl); (case kB => exact rfl); (case kD => decide +kernel); (case c2 => exact rfl); (case c3 => exact rfl); (case c4 => exact rfl); k_whole; intro g' L' h' tk' cells' FG F1 N1 Y1 B1 X1 T1 l1; (try k_lt l1); k_cells Y1; (try simp only [List.cons_append, List.nil_append] at N1); (try dsimp only); (try k_fold)))
  rename_i oE dE
  replace dE : oE.data = .cell none := dE
  have hq : ∀ p ∈ led, p.1 ≠ L' + 1 := fun p hp => Nat.ne_of_lt (Nat.lt_succ_of_lt (l1 p hp))
  replace F1 : Fr _ _ _ (fun y => if y = Str.ofString "record" then some (Value.ref rc) else if y = Str.ofString "one" then some (Value.ref x) else none) := F1
  have hln : kvs.length ≤ 16777216 := by rw [hkv.length]; omega
  k_steps
  rename_i h2 o2 F2 N2 d2
  replace d2 : o2.data = .cell (some (.ref oc)) := d2
  unfold Hold
  refine kda_len (knd := PySem.intKind _ w) N2 (.tail _ hoc) hoo hs2 hln ?_
  rw [hkv.length]
  k_steps
  unfold Hold
  refine ne_refopt (K := Mine.hd.heap_1 w.params) (C := 74) (X1.keeps F2.keep) hg hg2 ?_ (by k_is) (by k_is) (by k_is) (by ktr_units) ?_
  · intro a ea
    obtain ⟨fd, ofd, h1, h2⟩ := hfa a ea
    exact ⟨_, _, InstAt.of_news N2 (.tail _ h1) (.tail _ h2)⟩
  k_steps
  unfold Hold
  k_dflt (refine LCt.Assign_ListComp_T (F₀ := by k_asm) (by rfl) (by with_unfolding_all rfl) (by with_unfolding_all rfl) (by decide) (by rfl) (by decide) (by rfl) (by rfl) (by rfl) ?_)
  k_steps
  unfold Hold
  refine LCt.CompSrcT.range (n := 64) (by rfl) (by k_asm) (by k_asm) (by assumption) (by decide) (by first | rfl | decide) (by rw [sizeLine_eq]; omega) ?_
  intro g9
  refine restT_ind (fun i ys news => news = (L' + 1, o2) :: led ∧ IntsAre ys (rowTo told i)) ?turn ?done ⟨rfl, IntsAre.nil⟩
  case turn =>
    rintro i ys news hi ⟨rfl, e1⟩ v I oI C oC D m₂ h tk E' ⟨t, rfl⟩ hC hx2 F3 N3 off ne
    rw [Int.zero_add] at hx2
    k_steps
    unfold Hold
    k_dflt (refine LCt.ListComp_T (F₀ := by k_asm) (by with_unfolding_all rfl) (by decide) (by rfl) (by decide) (by rfl) ?_)
    k_steps
    unfold Hold
    refine LCt.CompSrcT.range (n := i + 1) (by rfl) (by k_asm) (by k_asm) (by assumption) (small_one (by omega) (by omega) (by omega) (by omega)) (by rw [rangeSize_nat]; omega) (by rw [sizeLine_eq]; omega) ?_
    intro g10
    refine restT_ind (fun j zs news => news = (I, oI) :: (C, oC) :: (D, LCg.lst ys) :: (L' + 1, o2) :: led ∧ zs.isEmpty = (List.range j).all (fun o => hasI told ((o : Nat) : Int))) ?turn2 ?done2 ⟨rfl, rfl⟩
    case turn2 =>
      rintro j zs news hj ⟨rfl, e2⟩ v I2 oI2 C2 oC2 D2 m₃ h tk E' ⟨t, rfl⟩ hC2 hx3 F4 N4 off2 ne2
      rw [Int.zero_add] at hx3
      k_steps
      unfold Hold
      refine kdg_notin (knd := PySem.intKind _ w) N4 (.tail _ (.tail _ (.tail _ (.tail _ (.tail _ (.tail _ (.tail _ hoc))))))) hoo hs2 (intKind_is _ _ _ _) (hasI told (j : Int)) ?_ ?_
      · rcases hkv.get j with ⟨h1, h2⟩ | ⟨v, t, h1, h2⟩
        · rw [h1, hasI, h2]; rfl
        · rw [h1, hasI, h2]; rfl
      k_steps
      · rename_i hh
        refine CompEnd.intro F4 N4 _ sub_refl off2 trivial ⟨rfl, ?_⟩
        rw [e2, List.range_succ, List.all_append]; simp [hh]
      · rename_i hh
        refine CompEnd.intro F4 N4 _ sub_refl off2 trivial ⟨rfl, ?_⟩
        rw [List.range_succ, List.all_append]; simp [hh]
    case done2 =>
      rintro zs news ⟨rfl, e2⟩
      unfold FinE
      intro D4 h4 tk4 F4 N4 o4
      dsimp only
      k_steps
      · rename_i hh
        rw [e2] at hh
        have hi2 : hasI told (i : Int) = true := List.all_eq_true.mp hh i (List.mem_range.mpr (Nat.lt_succ_self i))
        rcases hkv.get i with ⟨h1, h2⟩ | ⟨v, t, h1, h2⟩
        · rw [hasI, h2] at hi2; cases hi2
        rename News _ _ _ _ => N'
        unfold Hold
        refine kda_item (knd := PySem.intKind _ w) (d := oc) N' (by repeat (first | exact hoc | refine List.Mem.tail _ ?_)) hoo (intKind_is _ _ _ _) h1 ?_
        refine CompEnd.intro (by assumption) N' _ (by repeat (first | exact sub_refl | refine sub_tail ?_)) off trivial ⟨rfl, ?_⟩
        rw [rowTo_succ, if_pos hh, h2]
        exact e1.append (.cons _ _ .nil)
      · rename_i hh
        rw [e2] at hh
        rename News _ _ _ _ => N'
        refine CompEnd.intro (by assumption) N' _ (by repeat (first | exact sub_refl | refine sub_tail ?_)) off trivial ⟨rfl, ?_⟩
        rw [rowTo_succ, if_neg (by rw [hh]; exact Bool.false_ne_true), List.append_nil]
        exact e1
  case done =>
    rintro ys news ⟨rfl, e1⟩
    unfold FinA
    intro D3 h3 tk3 F3 N3 o3
    dsimp only
    k_steps
    unfold Hold
    refine Ctr.use F3 N3 (told_ctr (od := _) (.tail _ (.tail _ hx)) (.tail _ (.tail _ hdx)) ⟨_, _, _, _, _, _, _, _, _, _, _, _, _, _, _, _, _, _, _, _, rfl⟩ (.tail _ (.tail _ hpl)) hpp (fun p hp => .tail _ (.tail _ (hs p hp))) hnd h64 hz2) sub_refl (by k_asm) (by k_asm) (by k_asm) (by first | assumption | exact rfl) (by ktr_room) (by ktr_units) ?_
    rintro r5 h5 tk5 nx5 F5 N5 ⟨rfl, arr5, t5, op5, rfl, hpm5, hpw5, hb5⟩
    dsimp only
    k_steps
    have hlr := rowTo_length told 64
    have hIn : KBa.In (rowTo told 64) := rowTo_in told h256 64
    unfold Hold
    refine kmk_slice_ints (by k_asm) (by k_asm) (News.isList (by k_asm) (by k_mem)) IsPart.none (IsPart.int _ _) e1 (kmk_upto e1 (by decide)) rfl ?_ (by with_unfolding_all rfl) (by kmk_pure) (by rw [List.size_toArray, e1.length, sizeLine_eq]; omega)
    intro D6 ws6 h6 F6 N6 l6 e6 _ _
    k_steps
    unfold Hold
    refine KBa.make_K (D := D6) (by k_asm) (by k_asm) rfl (News.isList (by k_asm) (by k_mem)) e6 (fun n hn => hIn n (List.mem_of_mem_take hn)) (by rw [List.length_take]; omega) ?_
    intro h7 t7 k7 F7 N7 in7
    k_steps
    unfold Hold
    refine ne_bytes_same ?_ ?_
    · rw [hb5, KBa.ints_make in7]; exact q1 op5 hpm5 hpw5
    k_steps
    unfold Hold
    refine Ctr.use F7 N7 (octets_ctr (od := _) (.tail _ (.tail _ (.tail _ hx))) (.tail _ (.tail _ (.tail _ hdx))) ⟨_, _, _, _, _, _, _, _, _, _, _, _, _, _, _, _, _, _, _, _, rfl⟩ (.tail _ (.tail _ (.tail _ hpl))) hpp (fun p hp => .tail _ (.tail _ (.tail _ (hs p hp)))) hnd h64 hz2) sub_refl (by k_asm) (by k_asm) (by k_asm) (by first | assumption | exact rfl) (by ktr_room) (by ktr_units) ?_
    rintro r8 h8 tk8 nx8 F8 N8 ⟨rfl, arr8, t8', op8, rfl, hpm8, hpw8, hb8⟩
    dsimp only
    k_steps
    unfold Hold
    k_dflt (refine LCg.ListComp_U (F₀ := by k_asm) (by with_unfolding_all rfl) (by decide) (by rfl) (by decide) (by rfl) ?_)
    k_steps
    unfold Hold
    refine sorted_keys (by with_unfolding_all rfl) (by k_asm) (by k_asm) (.tail _ (.tail _ (.tail _ hoc))) hoo hs2 hkv h64t ?_
    intro D9 vs9 ks9 c9 h9 tk9 F9 N9 l9 e9 pm9 pw9
    k_steps
    have hkl : ks9.length = told.length := by rw [pm9.length_eq, List.length_map]
    refine LCg.CompSrc.ledger (by with_unfolding_all rfl) F9 N9 (.head _) (by rw [List.size_toArray, e9.length, hkl, sizeLine_eq]; omega) ?_
    intro g11
    refine restU_ind (fun i ys' news => news = (D9, listOf (List.toArray vs9) c9) :: (D6, listOf ws6.toArray 0) :: (D3, LCg.lst ys) :: (L' + 1, o2) :: led ∧ IntsAre ys' ((ks9.take i).map (fun k => (getI told k).getD 0))) ?turn3 ?done3 ⟨rfl, IntsAre.nil⟩
    case turn3 =>
      rintro i ys' news hi ⟨rfl, e2⟩ v I oI C oC D m₂ h tk E' hP hC hx2 F3 N3 off ne
      obtain ⟨k, t, rfl, hk9⟩ := e9.at i v (by simpa using hP)
      k_steps
      have hmk : k ∈ told.map (·.1) := pm9.mem_iff.mp (List.mem_of_getElem? hk9)
      rcases hkv.get k with ⟨h1, h2⟩ | ⟨v, tv, h1, h2⟩
      · exact absurd hmk (getI_none h2)
      rename News _ _ _ _ => N'
      unfold Hold
      refine kda_item (knd := PySem.intKind _ w) (d := oc) N' (by repeat (first | exact hoc | refine List.Mem.tail _ ?_)) hoo (intKind_is _ _ _ _) h1 ?_
      refine CompEnd.intro (by assumption) N' _ (by repeat (first | exact sub_refl | refine sub_tail ?_)) off (.inr ⟨_, .head _, rfl, _, rfl⟩) ⟨rfl, ?_⟩
      rw [take_succ_of hk9, List.map_append, List.map_cons, List.map_nil, h2]
      exact e2.append (.cons _ _ .nil)
    case done3 =>
      rintro ys' news ⟨rfl, e2⟩
      unfold FinE
      intro D10 h10 tk10 F10 N10 o10
      dsimp only
      k_steps
      rw [List.size_toArray, e9.length, List.take_length] at e2
      have hIn2 : KBa.In (ks9.map (fun k => (getI told k).getD 0)) := by
        intro n hn
        obtain ⟨k, -, rfl⟩ := List.mem_map.mp hn
        exact getI_in h256 _
      unfold Hold
      refine KBa.make_K (D := D10) (by k_asm) (by k_asm) rfl (News.isList (by k_asm) (by k_mem)) e2 (fun n hn => hIn2 n hn) (by rw [List.length_map]; omega) ?_
      intro h11 t11 k11 F11 N11 in11
      k_steps
      unfold Hold
      refine ne_bytes_same ?_ ?_
      · rw [hb8, KBa.ints_make in11]; exact q2 op8 hpm8 hpw8 ks9 pm9 pw9
      k_steps
      unfold Hold
      refine Ctr.use F11 N11 (dwhole_ctr (fin := fin) (fst := fst) (od := _) (.tail _ (.tail _ (.tail _ (.tail _ (.tail _ hx))))) (.tail _ (.tail _ (.tail _ (.tail _ (.tail _ hdx))))) ⟨_, _, _, _, _, _, _, _, _, _, _, _, _, _, _, _, _, _, _, _, rfl⟩ hf hg (.tail _ (.tail _ (.tail _ (.tail _ (.tail _ hy))))) (.tail _ (.tail _ (.tail _ (.tail _ (.tail _ hdy))))) hoy (.tail _ (.tail _ (.tail _ (.tail _ (.tail _ hl))))) hp) sub_refl (by k_asm) (by k_asm) (by k_asm) (by first | assumption | exact rfl) (by ktr_room) (by ktr_units) ?_
      rintro r12 h12 tk12 nx12 F12 N12 ⟨rfl, rfl⟩
      dsimp only
      cases fin with
      | none =>
        obtain rfl : ev = .none := hf2
        k_steps
        rename Fr h₀ L _ m => F'
        rename News h₀ L _ _ => N'
        exact hret _ _ _ _ F' (fun p hp => N' p (by repeat (first | exact hp | refine List.Mem.tail _ ?_))) ⟨rfl, rfl⟩
      | some f =>
        obtain ⟨tf, rfl⟩ : ∃ t, ev = .int f t := hf2
        cases fst with
        | none =>
          obtain rfl : fv2 = .none := hg2
          k_steps
          rename Fr h₀ L _ m => F'
          rename News h₀ L _ _ => N'
          exact hret _ _ _ _ F' (fun p hp => N' p (by repeat (first | exact hp | refine List.Mem.tail _ ?_))) ⟨rfl, rfl⟩
        | some fa =>
          obtain rfl : fv2 = .ref fa := hg2
          k_steps
          unfold Hold
          refine len_list (News.isList (by k_asm) (by k_mem)) (by rw [List.size_toArray, e1.length]; omega) ?_
          k_steps
          rename Fr h₀ L _ m => F'
          rename News h₀ L _ _ => N'
          refine hret _ _ _ _ F' (fun p hp => N' p (by repeat (first | exact hp | refine List.Mem.tail _ ?_))) ⟨rfl, congrArg Value.bool ?_⟩
          rw [q3 f rfl rfl, List.size_toArray, e1.length]
          exact beq_iff_eq.mpr rfl
end
/-! part: PutO -/
section
/-- an address that is none of a datagram's five: below them, above them, or between the holes and the parts -/
def Out (dx y pl a : Nat) : Prop := a < dx ∨ pl < a ∨ y < a ∧ a < pl
theorem out_ne {x dx y dy pl : Addr} {rest : List (Addr × Obj)} (c1 : @LT.lt Nat _ dx x) (c2 : @LT.lt Nat _ x dy) (c3 : @LT.lt Nat _ dy y) (c4 : @LT.lt Nat _ y pl) (h : ∀ p ∈ rest, Out dx y pl p.1) {a : Addr} (ha : a = x ∨ a = dx ∨ a = y ∨ a = dy ∨ a = pl) : ∀ p ∈ rest, p.1 ≠ a := by
  intro p hp e
  have h := h p hp
  unfold Out at h
  rw [e] at h
  have h : @LT.lt Nat _ a dx ∨ @LT.lt Nat _ pl a ∨ @LT.lt Nat _ y a ∧ @LT.lt Nat _ a pl := h
  rcases ha with rfl | rfl | rfl | rfl | rfl <;> omega
theorem put_out {w : World} {mean : ExcName → Option Value} {mg mb : PySem.Str → Option Value} {x dx y dy pl hx hdx : Addr} {od oy oh : Obj} {np : Nat} {rest : List (Addr × Obj)} {rows : List (Int × Int)} {parts : List (Int × List Int)} {fin : Option Int} {fst : Option Addr} {ahead size b : Int} {more : Bool}
   {arr : Array UInt8} {pay : List Int} {ta : Tok} {pvs : List Value}
   (hd : DgIs ⟨rows, parts, fin, fst, ahead, size⟩ od oy y pl pvs rest) (hn : rows.length < 400) (hz : parts.length < 1000)
   (hh : (hx, instObj 74 hdx) ∈ rest) (hhd : (hdx, oh) ∈ rest) (hoh : IsHdr oh more b) (hb : KBw.bInts arr = pay) (hpl : pay.length < 1000)
   (c1 : @LT.lt Nat _ dx x) (c2 : @LT.lt Nat _ x dy) (c3 : @LT.lt Nat _ dy y) (c4 : @LT.lt Nat _ y pl) (h : ∀ p ∈ rest, Out dx y pl p.1) :
   Ctr w mean mg mb 155 [.ref x, .ref hx, .bytes arr ta] ((x, instObj 177 dx) :: (dx, od) :: (y, instObj 123 dy) :: (dy, oy) :: (pl, listOf (List.toArray pvs) np) :: rest) 8 64
     (PutPost ⟨rows, parts, fin, fst, ahead, size⟩ hx more b pay x dx y dy pl pvs ((x, instObj 177 dx) :: (dx, od) :: (y, instObj 123 dy) :: (dy, oy) :: (pl, listOf (List.toArray pvs) np) :: rest) rest) :=
  have d2 := Nat.lt_trans c1 c2
  have d3 := Nat.lt_trans c2 c3
  have d4 := Nat.lt_trans c3 c4
  put_ctr hd hn hz hh hhd hoh hb hpl (Nat.ne_of_gt c1) (Nat.ne_of_lt d3) (Nat.ne_of_lt c2) (Nat.ne_of_lt (Nat.lt_trans d3 c4)) (Nat.ne_of_lt (Nat.lt_trans c1 d3)) (Nat.ne_of_lt d2) (Nat.ne_of_lt (Nat.lt_trans d2 d4)) (Nat.ne_of_gt c3) (Nat.ne_of_lt c4) (Nat.ne_of_lt d4)
    (out_ne c1 c2 c3 c4 h (.inl rfl)) (out_ne c1 c2 c3 c4 h (.inr (.inl rfl))) (out_ne c1 c2 c3 c4 h (.inr (.inr (.inl rfl)))) (out_ne c1 c2 c3 c4 h (.inr (.inr (.inr (.inl rfl))))) (out_ne c1 c2 c3 c4 h (.inr (.inr (.inr (.inr rfl)))))
/-- what was new at once stands apart from what stood below -/
theorem new_off {x dx y dy pl rl Dt a : Addr} {o1 o2 o3 o4 o5 o6 o7 : Obj} {tl : List (Addr × Obj)} (a1 : @LT.lt Nat _ dx x) (a2 : @LT.lt Nat _ x dy) (a3 : @LT.lt Nat _ dy y) (a4 : @LT.lt Nat _ y Dt) (a5 : @LT.lt Nat _ Dt rl) (a6 : @LT.lt Nat _ rl pl)
    (h : @LT.lt Nat _ a dx) (t : ∀ p ∈ tl, p.1 ≠ a) : ∀ p ∈ (x, o1) :: (dx, o2) :: (y, o3) :: (dy, o4) :: (pl, o5) :: (rl, o6) :: (Dt, o7) :: tl, p.1 ≠ a :=
  have n1 := Nat.lt_trans h a1
  have n2 := Nat.lt_trans n1 a2
  have n3 := Nat.lt_trans n2 a3
  have n4 := Nat.lt_trans n3 a4
  have n5 := Nat.lt_trans n4 a5
  cons_ne (Nat.ne_of_gt n1) (cons_ne (Nat.ne_of_gt h) (cons_ne (Nat.ne_of_gt n3) (cons_ne (Nat.ne_of_gt n2) (cons_ne (Nat.ne_of_gt (Nat.lt_trans n5 a6)) (cons_ne (Nat.ne_of_gt n5) (cons_ne (Nat.ne_of_gt n4) t))))))
theorem cons_out {dx y pl : Nat} {a : Addr} {o : Obj} {rest : List (Addr × Obj)} (h : Out dx y pl a) (t : ∀ p ∈ rest, Out dx y pl p.1) : ∀ p ∈ (a, o) :: rest, Out dx y pl p.1 := List.forall_mem_cons.mpr ⟨h, t⟩
/-- the method put of a datagram, found without a look at its dict's entries -/
theorem put_method {w : World} {A : Around} {E : Value → Shared → Prop} {s : Shared} {L x dx y pl' : Addr} {h₀ : Heap} {m : PySem.Str → Option Value} {news : List (Addr × Obj)} {od : Obj} {ev fv : Value} {a sz : Int} {pl : Sem Bool} {Q : Value × List Value → Shared → Prop}
    (F : Fr h₀ L s.heap m) (X : (Mine.hd.heap_1 w.params).In h₀) (N : News h₀ L s.heap news) (hx : (x, instObj 177 dx) ∈ news) (hd : (dx, od) ∈ news) (h : IsDgram od y pl' ev a fv sz)
    (q : Q (.ref 155, [.ref x]) s) : wpAny (model PySem.Challenge.rw_on0344_01.row.prog w) A (getMethod (.ref x) (Str.ofString "put") pl) Q E s := by
  obtain ⟨g1, g2, g3, g4, g5, g6, g7, g8, k1, k2, k3, k4, k5, k6, k7, k8, bv, t2, t6, t8, rfl⟩ := h
  revert X
  k_fill
  intro X
  k_dflt (refine' method_inst ?k1 ?k2 ?k3 ?k4 ?k5 ?k6 ?k7 ?_; (case k1 => k_asm); (case k2 => k_asm); (case k3 => k_inst); (case k4 => k_is); (case k5 => k_is); (case k6 => k_is); (case k7 => k_get); k_whole)
  exact q
end
/-! part: DgT -/
section
local macro_rules | `(tactic| walk_at "getMethod ref") => `(tactic| (k_here; (with_reducible show wpAny _ _ (getMethod (Value.ref _) (Str.ofString "put") _) _ _ _); refine hold ?_))
local macro_rules | `(tactic| walk_at "pyIter ref") => `(tactic| (k_here; refine hold ?_))
local macro_rules | `(tactic| walk_at "call type:bytes") => `(tactic| (k_here; (with_reducible show wpAny _ _ (call (Value.type "bytes") [Value.ref _]) _ _ _); refine hold ?_))
local macro_rules | `(tactic| walk_at "binaryOp Mult ref int") => `(tactic| (k_here; refine hold ?_))
local macro_rules | `(tactic| walk_at "compareOp NotIn int ref") => `(tactic| (k_here; refine hold ?_))
local macro_rules | `(tactic| walk_at "exec For Name Call cons nil") => `(tactic| (k_here; (with_unfolding_all refine my_For ?_ ?hs); (case hs => (intro _; with_unfolding_all rfl))))
local macro_rules | `(tactic| walk_at "binaryOp Mult int int") => `(tactic| (k_here; with_unfolding_all refine mul_int ?_ (IntMulOk.of_left (intBits_le_64 (by decide) (by decide)))))
local macro_rules | `(tactic| walk_at "compareOp NotEq bool bool") => `(tactic| (k_here; refine hold ?_))
abbrev stored7 : List PySem.Str := [Str.ofString "turn", Str.ofString "begin", Str.ofString "many", Str.ofString "more", Str.ofString "octets", Str.ofString "head", Str.ofString "due"]
structure LS (w : World) (sl x dx y dy pl oc rc : Addr) (rest : List (Addr × Obj)) (d : DS) (T : List (Int × Int)) (tl : List (Addr × Obj)) (a b : Int) (od oy oo ro : Obj) (pvs : List Value) (kvs : List (Int × Value)) (ev fv : Value) : Prop where
  a0 : 0 ≤ a
  b0 : 0 ≤ b
  b1 : b < 2147483647
  dg : DgIs d od oy y pl pvs tl
  rcd : RecIs w ro oc ev fv d.ahead
  evo : IsOpt ev d.fin
  fvo : IsRefOpt fv d.fst
  oct : Obj.IsDictOf (PySem.intKind PySem.Challenge.rw_on0344_01.row.prog w) oo kvs
  kv : KvIs kvs T
  inv : Inv d T
  hdr : ∀ fa, d.fst = some fa → ∃ fd ofd, (fa, instObj 74 fd) ∈ tl ∧ (fd, ofd) ∈ tl
  keep : ∀ p ∈ rest, p ∈ tl
  off : ∀ p ∈ tl, @Ne Nat p.1 sl ∧ @Ne Nat p.1 x ∧ @Ne Nat p.1 dx ∧ @Ne Nat p.1 y ∧ @Ne Nat p.1 dy ∧ @Ne Nat p.1 pl ∧ @Ne Nat p.1 oc ∧ @Ne Nat p.1 rc
/-- the eight addresses are apart -/
structure Apart (sl x dx y dy pl oc rc : Addr) : Prop where
  s1 : @Ne Nat sl x
  s2 : @Ne Nat sl dx
  s3 : @Ne Nat sl y
  s4 : @Ne Nat sl dy
  s5 : @Ne Nat sl pl
  s6 : @Ne Nat sl oc
  s7 : @Ne Nat sl rc
  x2 : @Ne Nat x dx
  x3 : @Ne Nat x y
  x4 : @Ne Nat x dy
  x5 : @Ne Nat x pl
  x6 : @Ne Nat x oc
  x7 : @Ne Nat x rc
  d3 : @Ne Nat dx y
  d4 : @Ne Nat dx dy
  d5 : @Ne Nat dx pl
  d6 : @Ne Nat dx oc
  d7 : @Ne Nat dx rc
  y4 : @Ne Nat y dy
  y5 : @Ne Nat y pl
  y6 : @Ne Nat y oc
  y7 : @Ne Nat y rc
  e5 : @Ne Nat dy pl
  e6 : @Ne Nat dy oc
  e7 : @Ne Nat dy rc
  p6 : @Ne Nat pl oc
  p7 : @Ne Nat pl rc
  o7 : @Ne Nat oc rc
inductive TurnPost (w : World) (sl x dx y dy pl oc rc : Addr) (rest : List (Addr × Obj)) (nx : List (Addr × Obj)) : Prop
  | mk (d : DS) (T : List (Int × Int)) (tl : List (Addr × Obj)) (a b : Int) (od oy oo ro : Obj) (pvs : List Value) (kvs : List (Int × Value)) (ev fv : Value) (t1 t2 : Tok) (n np : Nat)
      (e : nx = (sl, listOf #[.int a t1, .int b t2] n) :: (x, instObj 177 dx) :: (dx, od) :: (y, instObj 123 dy) :: (dy, oy) :: (pl, listOf (List.toArray pvs) np) :: (oc, oo) :: (rc, ro) :: tl) (S : LS w sl x dx y dy pl oc rc rest d T tl a b od oy oo ro pvs kvs ev fv)

theorem ints_rep (n : Nat) (v : Int) (t : Tok) : IntsAre (List.replicate n (Value.int v t)) (List.replicate n v) := by
  induction n with
  | zero => exact .nil
  | succ n ih => exact .cons _ _ ih
structure HiH (sl x dx y dy pl oc rc H Dh : Addr) : Prop where
  a1 : @LT.lt Nat _ sl H
  a2 : @LT.lt Nat _ sl Dh
  b1 : @LT.lt Nat _ x H
  b2 : @LT.lt Nat _ x Dh
  c1 : @LT.lt Nat _ dx H
  c2 : @LT.lt Nat _ dx Dh
  d1 : @LT.lt Nat _ y H
  d2 : @LT.lt Nat _ y Dh
  e1 : @LT.lt Nat _ dy H
  e2 : @LT.lt Nat _ dy Dh
  f1 : @LT.lt Nat _ pl H
  f2 : @LT.lt Nat _ pl Dh
  g1 : @LT.lt Nat _ oc H
  g2 : @LT.lt Nat _ oc Dh
  h1 : @LT.lt Nat _ rc H
  h2 : @LT.lt Nat _ rc Dh
theorem perm_step (e1 e2 e3 e4 e5 e6 e7 e8 e9 e10 e11 : Addr × Obj) (nw tl : List (Addr × Obj)) : ∀ p ∈ e9 :: e8 :: e1 :: e2 :: e3 :: e4 :: e5 :: e10 :: e11 :: (nw ++ (e6 :: e7 :: tl)), p ∈ e1 :: e2 :: e3 :: e4 :: e5 :: (nw ++ (e6 :: e7 :: e8 :: e9 :: e10 :: e11 :: tl)) :=
  (cons_mem (.tail _ (.tail _ (.tail _ (.tail _ (.tail _ (List.mem_append_right _ (.tail _ (.tail _ (.tail _ (.head _)))))))))) (cons_mem (.tail _ (.tail _ (.tail _ (.tail _ (.tail _ (List.mem_append_right _ (.tail _ (.tail _ (.head _))))))))) (cons_mem (.head _) (cons_mem (.tail _ (.head _)) (cons_mem (.tail _ (.tail _ (.head _))) (cons_mem (.tail _ (.tail _ (.tail _ (.head _)))) (cons_mem (.tail _ (.tail _ (.tail _ (.tail _ (.head _))))) (cons_mem (.tail _ (.tail _ (.tail _ (.tail _ (.tail _ (List.mem_append_right _ (.tail _ (.tail _ (.tail _ (.tail _ (.head _))))))))))) (cons_mem (.tail _ (.tail _ (.tail _ (.tail _ (.tail _ (List.mem_append_right _ (.tail _ (.tail _ (.tail _ (.tail _ (.tail _ (.head _)))))))))))) (fun p hp => (List.mem_append.mp hp).elim (fun h => (.tail _ (.tail _ (.tail _ (.tail _ (.tail _ (List.mem_append_left _ h))))))) ((cons_mem (.tail _ (.tail _ (.tail _ (.tail _ (.tail _ (List.mem_append_right _ (.head _))))))) (cons_mem (.tail _ (.tail _ (.tail _ (.tail _ (.tail _ (List.mem_append_right _ (.tail _ (.head _)))))))) (fun _ h9 => (.tail _ (.tail _ (.tail _ (.tail _ (.tail _ (List.mem_append_right _ (.tail _ (.tail _ (.tail _ (.tail _ (.tail _ (.tail _ h9))))))))))))))) p)))))))))))
theorem evo_step {ev ev2 : Value} {d : DS} {T : List (Int × Int)} {H : Addr} {more : Bool} {b : Int} {pay : List Int} (h : IsOpt ev d.fin) (hd : deniedF T d.fin d.ahead (b + (pay.length : Int)) more = false) (h2 : if more then ev2 = ev else ∃ t, ev2 = .int (b + pay.length) t) : IsOpt ev2 (putF d H more b pay).fin := by
  cases more with
  | true => 
    simp only [if_true] at h2; subst h2; exact h
  | false =>
    simp only [Bool.false_eq_true, if_false] at h2
    unfold putF; simp only [Bool.false_eq_true, if_false]
    cases hf : d.fin with
    | none => exact h2
    | some f =>
      unfold deniedF at hd
      rw [hf] at hd
      split at hd
      · cases hd
      · simp at hd; rw [hd] at h2; exact h2
theorem fvo_step {fv fv2 : Value} {d : DS} {H : Addr} {more : Bool} {b : Int} {pay : List Int} (h : IsRefOpt fv d.fst) (h2 : fv2 = if b = 0 ∧ d.fst = none then .ref H else fv) : IsRefOpt fv2 (putF d H more b pay).fst := by
  unfold putF; dsimp only
  cases hf : d.fst with
  | none =>
    rw [hf] at h h2
    by_cases hb : b = 0
    · rw [if_pos ⟨hb, rfl⟩] at h2; simp only [if_pos hb]; exact h2
    · rw [if_neg (fun x => hb x.1)] at h2; simp only [if_neg hb]; rw [h2]; exact h
  | some f =>
    rw [hf] at h h2
    rw [if_neg (fun x => by cases x.2)] at h2; rw [h2]; exact h
theorem LS.step {w : World} {sl x dx y dy pl oc rc H Dh I : Addr} {rest : List (Addr × Obj)} {d : DS} {T : List (Int × Int)} {tl nw : List (Addr × Obj)} {a b : Int} {od oy oo ro od' oy' oo2 ro2 oh oI o1 o2 o3 o4 o5 o6 o7 o8 o9 : Obj} {pvs pvs' : List Value} {kvs kvs2 : List (Int × Value)} {ev fv ev2 fv2 : Value} {more : Bool} {bg : Int} {pay : List Int}
    (S : LS w sl x dx y dy pl oc rc rest d T tl a b od oy oo ro pvs kvs ev fv) (hH : HiH sl x dx y dy pl oc rc H Dh) (hden : deniedF T d.fin d.ahead (bg + (pay.length : Int)) more = false)
    (hbg0 : 0 ≤ bg) (hbg44 : ¬ (bg ≤ 44 ∧ 44 < bg + (pay.length : Int))) (hp256 : ∀ v ∈ pay, 0 ≤ v ∧ v < 256)
    (hrc2 : RecIs w ro2 oc ev2 fv2 (if more then (if bg + (pay.length : Int) > d.ahead then bg + (pay.length : Int) else d.ahead) else d.ahead))
    (hoo2 : Obj.IsDictOf (PySem.intKind PySem.Challenge.rw_on0344_01.row.prog w) oo2 kvs2) (hkv2 : KvIs kvs2 (tkn T bg pay)) (hev2 : if more then ev2 = ev else ∃ t, ev2 = .int (bg + pay.length) t) (hfv2 : fv2 = if bg = 0 ∧ d.fst = none then .ref H else fv)
    (hdn : DgN (putF d H more bg pay) od' oy' y pl pvs pvs' nw ((d.rows.flatMap (foundOf bg (bg + (pay.length : Int)))).map (cutOf bg pay)))
    (hab2 : Above ((x, o1) :: (dx, o2) :: (y, o3) :: (dy, o4) :: (pl, o5) :: (H, o6) :: (Dh, o7) :: (sl, o8) :: (I, oI) :: (oc, o9) :: (rc, ro2) :: tl) nw) :
    LS w sl x dx y dy pl oc rc rest (putF d H more bg pay) (tkn T bg pay) (nw ++ ((H, instObj 74 Dh) :: (Dh, oh) :: tl)) a b od' oy' oo2 ro2 pvs' kvs2 ev2 fv2 where
  a0 := S.a0
  b0 := S.b0
  b1 := S.b1
  dg := by
    obtain ⟨_, _, _, _, _, _, _, _, _, _, _, hpp⟩ := S.dg
    exact hdn.is (hpp.mono fun p hp => .tail _ (.tail _ hp)) rfl
  rcd := hrc2
  evo := evo_step S.evo hden hev2
  fvo := fvo_step S.fvo hfv2
  oct := hoo2
  kv := hkv2
  inv := S.inv.put H hbg0 hbg44 hp256 hden
  hdr := fun fa e => by
    have old : ∀ fa, d.fst = some fa → ∃ fd ofd, (fa, instObj 74 fd) ∈ nw ++ ((H, instObj 74 Dh) :: (Dh, oh) :: tl) ∧ (fd, ofd) ∈ nw ++ ((H, instObj 74 Dh) :: (Dh, oh) :: tl) := fun fa e => by
      obtain ⟨fd, ofd, a1, a2⟩ := S.hdr fa e
      exact ⟨fd, ofd, List.mem_append_right _ (.tail _ (.tail _ a1)), List.mem_append_right _ (.tail _ (.tail _ a2))⟩
    unfold putF at e; dsimp only at e
    cases hf : d.fst with
    | some f => rw [hf] at e; exact old fa (by rw [hf]; exact e)
    | none =>
      rw [hf] at e; dsimp only at e
      split at e
      · cases e; exact ⟨Dh, oh, List.mem_append_right _ (.head _), List.mem_append_right _ (.tail _ (.head _))⟩
      · cases e
  keep := fun p hp => List.mem_append_right _ (.tail _ (.tail _ (S.keep p hp)))
  off := fun p hp => by
    rcases List.mem_append.mp hp with hp | hp
    · have n1 := hab2 p hp (x, o1) (.head _)
      have n2 := hab2 p hp (dx, o2) (.tail _ (.head _))
      have n3 := hab2 p hp (y, o3) (.tail _ (.tail _ (.head _)))
      have n4 := hab2 p hp (dy, o4) (.tail _ (.tail _ (.tail _ (.head _))))
      have n5 := hab2 p hp (pl, o5) (.tail _ (.tail _ (.tail _ (.tail _ (.head _)))))
      have n6 := hab2 p hp (sl, o8) (.tail _ (.tail _ (.tail _ (.tail _ (.tail _ (.tail _ (.tail _ (.head _))))))))
      have n7 := hab2 p hp (oc, o9) (.tail _ (.tail _ (.tail _ (.tail _ (.tail _ (.tail _ (.tail _ (.tail _ (.tail _ (.head _))))))))))
      have n8 := hab2 p hp (rc, ro2) (.tail _ (.tail _ (.tail _ (.tail _ (.tail _ (.tail _ (.tail _ (.tail _ (.tail _ (.tail _ (.head _)))))))))))
      exact ⟨Nat.ne_of_gt n6, Nat.ne_of_gt n1, Nat.ne_of_gt n2, Nat.ne_of_gt n3, Nat.ne_of_gt n4, Nat.ne_of_gt n5, Nat.ne_of_gt n7, Nat.ne_of_gt n8⟩
    rcases List.mem_cons.mp hp with rfl | hp
    · exact ⟨Nat.ne_of_gt hH.a1, Nat.ne_of_gt hH.b1, Nat.ne_of_gt hH.c1, Nat.ne_of_gt hH.d1, Nat.ne_of_gt hH.e1, Nat.ne_of_gt hH.f1, Nat.ne_of_gt hH.g1, Nat.ne_of_gt hH.h1⟩
    rcases List.mem_cons.mp hp with rfl | hp
    · exact ⟨Nat.ne_of_gt hH.a2, Nat.ne_of_gt hH.b2, Nat.ne_of_gt hH.c2, Nat.ne_of_gt hH.d2, Nat.ne_of_gt hH.e2, Nat.ne_of_gt hH.f2, Nat.ne_of_gt hH.g2, Nat.ne_of_gt hH.h2⟩
    · exact S.off p hp
theorem apart_of {sl x dx y dy pl oc rc : Addr} (h_sl_dx : @LT.lt Nat _ sl dx) (h_dx_x : @LT.lt Nat _ dx x) (h_x_dy : @LT.lt Nat _ x dy) (h_dy_y : @LT.lt Nat _ dy y) (h_y_pl : @LT.lt Nat _ y pl) (h_pl_rc : @LT.lt Nat _ pl rc) (h_rc_oc : @LT.lt Nat _ rc oc) : Apart sl x dx y dy pl oc rc := by
  have h_sl_x := Nat.lt_trans h_sl_dx h_dx_x
  have h_dx_dy := Nat.lt_trans h_dx_x h_x_dy
  have h_x_y := Nat.lt_trans h_x_dy h_dy_y
  have h_dy_pl := Nat.lt_trans h_dy_y h_y_pl
  have h_y_rc := Nat.lt_trans h_y_pl h_pl_rc
  have h_pl_oc := Nat.lt_trans h_pl_rc h_rc_oc
  have h_sl_dy := Nat.lt_trans h_sl_x h_x_dy
  have h_dx_y := Nat.lt_trans h_dx_dy h_dy_y
  have h_x_pl := Nat.lt_trans h_x_y h_y_pl
  have h_dy_rc := Nat.lt_trans h_dy_pl h_pl_rc
  have h_y_oc := Nat.lt_trans h_y_rc h_rc_oc
  have h_sl_y := Nat.lt_trans h_sl_dy h_dy_y
  have h_dx_pl := Nat.lt_trans h_dx_y h_y_pl
  have h_x_rc := Nat.lt_trans h_x_pl h_pl_rc
  have h_dy_oc := Nat.lt_trans h_dy_rc h_rc_oc
  have h_sl_pl := Nat.lt_trans h_sl_y h_y_pl
  have h_dx_rc := Nat.lt_trans h_dx_pl h_pl_rc
  have h_x_oc := Nat.lt_trans h_x_rc h_rc_oc
  have h_sl_rc := Nat.lt_trans h_sl_pl h_pl_rc
  have h_dx_oc := Nat.lt_trans h_dx_rc h_rc_oc
  have h_sl_oc := Nat.lt_trans h_sl_rc h_rc_oc
  exact ⟨Nat.ne_of_lt h_sl_x, Nat.ne_of_lt h_sl_dx, Nat.ne_of_lt h_sl_y, Nat.ne_of_lt h_sl_dy, Nat.ne_of_lt h_sl_pl, Nat.ne_of_lt h_sl_oc, Nat.ne_of_lt h_sl_rc, Nat.ne_of_gt h_dx_x, Nat.ne_of_lt h_x_y, Nat.ne_of_lt h_x_dy, Nat.ne_of_lt h_x_pl, Nat.ne_of_lt h_x_oc, Nat.ne_of_lt h_x_rc, Nat.ne_of_lt h_dx_y, Nat.ne_of_lt h_dx_dy, Nat.ne_of_lt h_dx_pl, Nat.ne_of_lt h_dx_oc, Nat.ne_of_lt h_dx_rc, Nat.ne_of_gt h_dy_y, Nat.ne_of_lt h_y_pl, Nat.ne_of_lt h_y_oc, Nat.ne_of_lt h_y_rc, Nat.ne_of_lt h_dy_pl, Nat.ne_of_lt h_dy_oc, Nat.ne_of_lt h_dy_rc, Nat.ne_of_lt h_pl_oc, Nat.ne_of_lt h_pl_rc, Nat.ne_of_gt h_rc_oc⟩
theorem off_mid {a sl x dx y dy pl oc rc : Addr} (h_sl_dx : @LT.lt Nat _ sl dx) (h_dx_x : @LT.lt Nat _ dx x) (h_x_dy : @LT.lt Nat _ x dy) (h_dy_y : @LT.lt Nat _ dy y) (h_pl_rc : @LT.lt Nat _ pl rc) (h_rc_oc : @LT.lt Nat _ rc oc) (l1 : @LT.lt Nat _ y a) (l2 : @LT.lt Nat _ a pl) : @Ne Nat a sl ∧ @Ne Nat a x ∧ @Ne Nat a dx ∧ @Ne Nat a y ∧ @Ne Nat a dy ∧ @Ne Nat a pl ∧ @Ne Nat a oc ∧ @Ne Nat a rc := by
  have k1 := Nat.lt_trans h_dy_y l1
  have k2 := Nat.lt_trans h_x_dy k1
  have k3 := Nat.lt_trans h_dx_x k2
  have k4 := Nat.lt_trans h_sl_dx k3
  have k5 := Nat.lt_trans l2 h_pl_rc
  have k6 := Nat.lt_trans k5 h_rc_oc
  exact ⟨Nat.ne_of_gt k4, Nat.ne_of_gt k2, Nat.ne_of_gt k3, Nat.ne_of_gt l1, Nat.ne_of_gt k1, Nat.ne_of_lt l2, Nat.ne_of_lt k6, Nat.ne_of_lt k5⟩
theorem off_low {a sl x dx y dy pl oc rc : Addr} (h_dx_x : @LT.lt Nat _ dx x) (h_x_dy : @LT.lt Nat _ x dy) (h_dy_y : @LT.lt Nat _ dy y) (h_y_pl : @LT.lt Nat _ y pl) (h_pl_rc : @LT.lt Nat _ pl rc) (h_rc_oc : @LT.lt Nat _ rc oc) (hs : @Ne Nat a sl) (l1 : @LT.lt Nat _ a dx) : @Ne Nat a sl ∧ @Ne Nat a x ∧ @Ne Nat a dx ∧ @Ne Nat a y ∧ @Ne Nat a dy ∧ @Ne Nat a pl ∧ @Ne Nat a oc ∧ @Ne Nat a rc := by
  have k1 := Nat.lt_trans l1 h_dx_x
  have k2 := Nat.lt_trans k1 h_x_dy
  have k3 := Nat.lt_trans k2 h_dy_y
  have k4 := Nat.lt_trans k3 h_y_pl
  have k5 := Nat.lt_trans k4 h_pl_rc
  have k6 := Nat.lt_trans k5 h_rc_oc
  exact ⟨hs, Nat.ne_of_lt k1, Nat.ne_of_lt l1, Nat.ne_of_lt k3, Nat.ne_of_lt k2, Nat.ne_of_lt k4, Nat.ne_of_lt k6, Nat.ne_of_lt k5⟩
theorem dg_start {w : World} {sl x dx y dy pl oc rc rl Dt DD : Addr} {rest : List (Addr × Obj)} {g h : Heap} {L : Addr} {oD od oy oo ro : Obj} {u1 u2 : Tok} {t1 t2 : Tok} {a b : Int} {n : Nat}
   (N : News g L h ((DD, oD) :: (oc, oo) :: (rc, ro) :: (x, instObj 177 dx) :: (dx, od) :: (y, instObj 123 dy) :: (dy, oy) :: (pl, listOf #[] 0) :: (rl, listOf #[.ref Dt] 0) :: (Dt, tupO [.int 0 u1, .int 64 u2]) :: (sl, listOf #[.int a t1, .int b t2] n) :: rest))
   (ap : Apart sl x dx y dy pl oc rc) (hrd : ∀ p ∈ rest, @LT.lt Nat _ p.1 dx) (hr : ∀ p ∈ rest, p.1 ≠ sl) (h1 : 0 ≤ a) (h2 : 0 ≤ b) (h3 : b < 2147483647)
   (ch : (@LT.lt Nat _ sl dx) ∧ (@LT.lt Nat _ dx x) ∧ (@LT.lt Nat _ x dy) ∧ (@LT.lt Nat _ dy y) ∧ (@LT.lt Nat _ y Dt) ∧ (@LT.lt Nat _ Dt rl) ∧ (@LT.lt Nat _ rl pl) ∧ (@LT.lt Nat _ pl rc) ∧ (@LT.lt Nat _ rc oc))
   (hod : IsDgram od y pl .none 0 .none 0) (hoy : IsHoles oy 64 rl) (hro : RecIs w ro oc .none .none 0) (hoo : Obj.IsDictOf (PySem.intKind PySem.Challenge.rw_on0344_01.row.prog w) oo []) :
   ∃ od oy tl, News g L h ((sl, listOf #[.int a t1, .int b t2] n) :: (x, instObj 177 dx) :: (dx, od) :: (y, instObj 123 dy) :: (dy, oy) :: (pl, listOf (List.toArray []) 0) :: (oc, oo) :: (rc, ro) :: tl) ∧
     LS w sl x dx y dy pl oc rc rest ⟨[(0, 64)], [], none, none, 0, 0⟩ [] tl a b od oy oo ro [] [] .none .none := by
  refine ⟨od, oy, (rl, listOf #[.ref Dt] 0) :: (Dt, tupO [.int 0 u1, .int 64 u2]) :: rest, News.sub N ?_, ?_⟩
  · exact cons_mem (by k_mem) (cons_mem (by k_mem) (cons_mem (by k_mem) (cons_mem (by k_mem) (cons_mem (by k_mem) (cons_mem (by k_mem) (cons_mem (by k_mem) (cons_mem (by k_mem) (cons_mem (by k_mem) (cons_mem (by k_mem) (fun _ h9 => by repeat (first | exact h9 | refine List.Mem.tail _ ?_)))))))))))
  · refine ⟨h1, h2, h3, ⟨.none, .none, rl, [.ref Dt], 0, hod, rfl, rfl, hoy, .head _, .cons (.tail _ (.head _)) .nil, .nil⟩, hro, rfl, rfl, hoo, .nil, Inv.init, fun fa h => (by cases h), fun p hp => .tail _ (.tail _ hp), fun p hp => ?_⟩
    obtain ⟨e1, e2, e3, e4, e5, e6, e7, e8, e9⟩ := ch
    have e57 := Nat.lt_trans e5 (Nat.lt_trans e6 e7)
    rcases List.mem_cons.mp hp with rfl | hp
    · exact off_mid e1 e2 e3 e4 e8 e9 (Nat.lt_trans e5 e6) e7
    rcases List.mem_cons.mp hp with rfl | hp
    · exact off_mid e1 e2 e3 e4 e8 e9 e5 (Nat.lt_trans e6 e7)
    exact off_low e2 e3 e4 e57 e8 e9 (hr p hp) (hrd p hp)
theorem LS.slne {w : World} {sl x dx y dy pl oc rc : Addr} {rest : List (Addr × Obj)} {d : DS} {T : List (Int × Int)} {tl : List (Addr × Obj)} {a b : Int} {od oy oo ro : Obj} {pvs : List Value} {kvs : List (Int × Value)} {ev fv : Value} {o1 o2 o3 o4 o5 o6 o7 : Obj}
    (S : LS w sl x dx y dy pl oc rc rest d T tl a b od oy oo ro pvs kvs ev fv) (ap : Apart sl x dx y dy pl oc rc) : ∀ p ∈ (x, o1) :: (dx, o2) :: (y, o3) :: (dy, o4) :: (pl, o5) :: (oc, o6) :: (rc, o7) :: tl, p.1 ≠ sl :=
  cons_ne ap.s1.symm (cons_ne ap.s2.symm (cons_ne ap.s3.symm (cons_ne ap.s4.symm (cons_ne ap.s5.symm (cons_ne ap.s6.symm (cons_ne ap.s7.symm fun p hp => (S.off p hp).1))))))
theorem LS.stands {w : World} {mean : ExcName → Option Value} {mg mb : PySem.Str → Option Value} {sl x dx y dy pl oc rc : Addr} {rest : List (Addr × Obj)} {d : DS} {T : List (Int × Int)} {tl led : List (Addr × Obj)} {a b : Int} {od oy oo ro : Obj} {pvs : List Value} {np : Nat} {kvs : List (Int × Value)} {ev fv : Value}
    (S : LS w sl x dx y dy pl oc rc rest d T tl a b od oy oo ro pvs kvs ev fv) (hx : (x, instObj 177 dx) ∈ led) (hdx : (dx, od) ∈ led) (hy : (y, instObj 123 dy) ∈ led) (hdy : (dy, oy) ∈ led) (hpl : (pl, listOf pvs.toArray np) ∈ led) (hoc : (oc, oo) ∈ led) (hrc : (rc, ro) ∈ led) (hs : ∀ p ∈ tl, p ∈ led)
    (hs1 : (rc == sysModules) = false) (hs2 : (oc == sysModules) = false) : Ctr w mean mg mb 309 [.ref x, .ref rc] led 8 64 (fun r nx => nx = led ∧ r = .bool true) := by
  obtain ⟨endv, fv0, rl2, rowVals, nr, hod, hf, hg, hoy, hrl, hpr, hpp⟩ := S.dg
  have h64 := S.inv.told64
  exact stands_ctr hx hdx hod hf hg hy hdy hoy (hs _ hrl) hpr hpl hpp hs hrc S.rcd S.evo S.fvo hoc S.oct S.kv hs1 hs2 (Nat.lt_trans h64 (by decide)) (fun fa e => by obtain ⟨fd, ofd, a1, a2⟩ := S.hdr fa e; exact ⟨fd, ofd, hs _ a1, hs _ a2⟩) S.inv.size
    (begins_nodup S.inv.ne S.inv.pnd) S.inv.parts64 (by rw [S.inv.flat]; exact Nat.lt_trans h64 (by decide)) h64 S.inv.oct S.inv.q1 S.inv.q2 (fun f e _ => S.inv.q3 f e)
theorem dv1 {v : Int} (h : v ∈ [(0 : Int), 0, 1, 2, 3, 7]) : 0 ≤ v ∧ v ≤ 7 ∧ (v ≤ 3 ∨ v = 7) := by simp only [List.mem_cons, List.not_mem_nil, or_false] at h; omega
theorem dv2 {v : Int} (h : v ∈ [(0 : Int), 4, 8, 8, 16, 20]) : 0 ≤ v ∧ v ≤ 20 := by simp only [List.mem_cons, List.not_mem_nil, or_false] at h; omega
theorem dbg {v n : Int} (h : 0 ≤ v ∧ v ≤ 7 ∧ (v ≤ 3 ∨ v = 7)) (h' : 0 ≤ n ∧ n ≤ 20) : 0 ≤ 8 * v ∧ ¬ (8 * v ≤ 44 ∧ 44 < 8 * v + n) := by omega
theorem dsmall {n : Int} (h' : 0 ≤ n ∧ n ≤ 20) : -(2 ^ 63 : Int) ≤ n ∧ n < 2 ^ 63 ∧ 1 * n.toNat ≤ 256 ∧ n.toNat ≤ 16777216 ∧ n.toNat < 1000 ∧ (n.toNat : Int) = n := by omega
theorem dturn {c : Int} (h : 0 ≤ c) (h' : c < 7) : -(2 ^ 62) ≤ 3 + c ∧ 3 + c < 2 ^ 62 := by omega
theorem dIn {i : Nat} {c : Int} (h : i < (3 + c).toNat) (h' : c < 7) : KBa.In [1, 1, 1, (i : Int)] := by
  intro k hk; simp only [List.mem_cons, List.not_mem_nil, or_false] at hk; omega
theorem dbe {pay : List Int} (hv2 : (pay.length : Int) ∈ [(0 : Int), 4, 8, 8, 16, 20]) : (pay.isEmpty || !decide ((pay.length : Int) % 8 = 0)) = !([8, 16].any (· == (pay.length : Int))) := by
  simp only [List.mem_cons, List.not_mem_nil, or_false] at hv2
  have hem : pay.isEmpty = decide ((pay.length : Int) = 0) := by cases pay <;> simp <;> omega
  rw [hem]
  generalize (pay.length : Int) = z at hv2
  rcases hv2 with rfl | rfl | rfl | rfl | rfl | rfl <;> decide
theorem ne_bool_same {prog : Program} {w : World} {A : Around} {E : Value → Shared → Prop} {s : Shared} {Q : Value → Shared → Prop} {c d : Bool} (e : c = d) (q : Q (.bool false) s) : wpAny (model prog w) A (compareOp .NotEq (.bool c) (.bool d)) Q E s := by
  subst e
  refine ne_bool ?_
  rw [show (c != c) = false from by simp]; exact q
set_option maxHeartbeats 40000000 in
theorem dg_ctr {w : World} {mean : ExcName → Option Value} {mg mb : PySem.Str → Option Value} {sl : Addr} {a b : Int} {t1 t2 : Tok} {n : Nat} {rest : List (Addr × Obj)}
   (h1 : 0 ≤ a) (h2 : 0 ≤ b) (h3 : b < 2147483647) (hr : ∀ p ∈ rest, p.1 ≠ sl) :
   Ctr w mean mg mb 316 [.ref sl] ((sl, listOf #[.int a t1, .int b t2] n) :: rest) 16 128
     (SrcPost sl rest) := by
  unfold Ctr
  k_fill
  intro dp un gd cn cs ca ccd cl outer A₀ base h₀ L m s Q E B F X N T hk hd hu hret
  refine wpAny_call ?_
  k_dflt ktr_enter
  rename Fr _ _ _ _ => lF
  replace lF : Fr _ _ _ (fun y => List.lookup y [(Str.ofString "source", Value.ref sl)]) := lF
  k_steps
  unfold Hold
  refine Ctr.use (by k_asm) (by k_asm) newd_ctr sub_refl (by k_asm) (by k_asm) (by k_asm) (by first | assumption | exact rfl) (by ktr_room) (by ktr_units) ?_
  rintro r7 h7 tk7 nx7 F7 N7 ⟨x, dx, y, dy, pl, rl, Dt, od, oy, u1, u2, rfl, rfl, hod, hoy, a1, a2, a3, a4, a5, a6, a0⟩
  dsimp only
  k_steps
  rename_i rc hz18 o2 lo1 hd1 l2 oc hz19 oo lo0 hs0 fs0 hi0 fi0 l1 hz20 ro hd0 DD hz21 l0 hz22 hz23 hz24 FF NN
  have ch : (@LT.lt Nat _ sl dx) ∧ (@LT.lt Nat _ dx x) ∧ (@LT.lt Nat _ x dy) ∧ (@LT.lt Nat _ dy y) ∧ (@LT.lt Nat _ y Dt) ∧ (@LT.lt Nat _ Dt rl) ∧ (@LT.lt Nat _ rl pl) ∧ (@LT.lt Nat _ pl rc) ∧ (@LT.lt Nat _ rc oc) := ⟨a0 _ (.head _), a1, a2, a3, a4, a5, a6, l2.2.2.2.2.1, l1.1⟩
  have ap : Apart sl x dx y dy pl oc rc := apart_of ch.1 a1 a2 a3 (Nat.lt_trans a4 (Nat.lt_trans a5 a6)) l2.2.2.2.2.1 l1.1
  have hrd : ∀ p ∈ rest, @LT.lt Nat _ p.1 dx := fun p hp => a0 p (.tail _ hp)
  have roct : RecIs w ro oc .none .none 0 := ⟨_, hd0⟩
  obtain ⟨od, oy, tl, NI, S0⟩ := dg_start NN ap hrd hr h1 h2 h3 ch hod hoy roct hi0
  clear NN fs0 fi0 hs0 roct hd0 hi0 hd1 hod hoy
  unfold Hold
  refine Ctr.use FF NI (take_ctr h1 h2 h3 (by decide) (by decide) (S0.slne ap)) sub_refl (by k_asm) (by k_asm) (by k_asm) (by first | assumption | exact rfl) (by ktr_room) (by ktr_units) ?_
  rintro r8 h8 tk8 nx8 F8 N8 ⟨c, tc, a', b', t1', t2', n', rfl, hc0, hc1, ha, hb, hb2, rfl⟩
  dsimp only
  clear FF NI
  k_steps
  unfold Hold
  rename_i F0 N0 hR tkR tR uR vR IR FR NR keepR
  clear F0 N0 keepR
  refine loop_range (n := (3 + c).toNat) (fun i m' nx => (∀ z, stored7.contains z = false → m' z = (fun y => if y = Str.ofString "one" then some (Value.ref x) else if y = Str.ofString "record" then some (Value.ref rc) else List.lookup y [(Str.ofString "source", Value.ref sl)]) z) ∧ TurnPost w sl x dx y dy pl oc rc rest nx)
    rfl (by passes_own) FR NR IR (small_one (by decide) (by decide) (dturn hc0 hc1).1 (dturn hc0 hc1).2) (by rw [rangeSize_nat, Int.sub_zero]) ⟨fun _ _ => rfl, _, _, _, _, _, _, _, _, _, _, _, _, _, _, _, _, _, rfl, { S0 with a0 := ha, b0 := hb, b1 := hb2 }⟩ ?turn ?done
  case turn =>
    rintro i t m₁ nx h tk I oI R9 K9 hi ⟨hm, d, T, tl, a, b, od, oy, oo, ro, pvs, kvs, ev, fv, t1, t2, n, np, rfl, S⟩ hI F2 N2
    clear FR NR IR S0
    replace F2 := Fr.only stored7 F2 hm
    clear hm
    k_steps
    rename_i hq1 D hq2 F3 N3 lD
    unfold Hold
    refine Ctr.use F3 N3 (one_ctr (rest := (D, _) :: (I, oI) :: (x, _) :: (dx, _) :: (y, _) :: (dy, _) :: (pl, _) :: (oc, _) :: (rc, _) :: tl) (ns := [0, 0, 1, 2, 3, 7]) S.a0 S.b0 S.b1 (cons_ne (Nat.ne_of_gt lD.2.1) (cons_ne (fun e => hI (sl, _) (.head _) e.symm) (S.slne ap))) (.head _) (.cons _ _ (.cons _ _ (.cons _ _ (.cons _ _ (.cons _ _ (.cons _ _ .nil)))))) (by decide) (by decide))
      (cons_mem (by k_mem) (cons_mem (by k_mem) (cons_mem (by k_mem) (fun _ h9 => .tail _ (.tail _ (.tail _ h9)))))) (by k_asm) (by k_asm) (by k_asm) (by first | assumption | exact rfl) (by ktr_room) (by ktr_units) ?_
    rintro r4 h4 tk4 nx4 F4 N4 ⟨v1, tv1, a4, b4, t14, t24, n4, rfl, hv1, ha4, hb4, hb5, rfl⟩
    replace N4 := News.sub N4 (led' := (sl, _) :: (I, oI) :: (x, _) :: (dx, _) :: (y, _) :: (dy, _) :: (pl, _) :: (oc, _) :: (rc, _) :: tl) (cons_mem (by k_mem) (fun _ h9 => .tail _ (.tail _ h9)))
    have hv1r : 0 ≤ v1 ∧ v1 ≤ 7 ∧ (v1 ≤ 3 ∨ v1 = 7) := dv1 hv1
    clear F2 N2 F3 N3 lD
    dsimp only
    k_steps
    rename_i D2 hq3 F3 N3 lD
    unfold Hold
    refine Ctr.use F3 N3 (one_ctr (rest := (D2, _) :: (I, oI) :: (x, _) :: (dx, _) :: (y, _) :: (dy, _) :: (pl, _) :: (oc, _) :: (rc, _) :: tl) (ns := [0, 4, 8, 8, 16, 20]) ha4 hb4 hb5 (cons_ne (Nat.ne_of_gt lD.1) (cons_ne (fun e => hI (sl, _) (.head _) e.symm) (S.slne ap))) (.head _) (.cons _ _ (.cons _ _ (.cons _ _ (.cons _ _ (.cons _ _ (.cons _ _ .nil)))))) (by decide) (by decide))
      (cons_mem (by k_mem) (cons_mem (by k_mem) (fun _ h9 => .tail _ (.tail _ h9)))) (by k_asm) (by k_asm) (by k_asm) (by first | assumption | exact rfl) (by ktr_room) (by ktr_units) ?_
    rintro r5 h5 tk5 nx5 F5 N5 ⟨v2, tv2, a5, b5, t15, t25, n5, rfl, hv2, ha5, hb6, hb7, rfl⟩
    replace N5 := News.sub N5 (led' := (sl, _) :: (I, oI) :: (x, _) :: (dx, _) :: (y, _) :: (dy, _) :: (pl, _) :: (oc, _) :: (rc, _) :: tl) (cons_mem (by k_mem) (fun _ h9 => .tail _ (.tail _ h9)))
    have hv2r : 0 ≤ v2 ∧ v2 ≤ 20 := dv2 hv2
    clear F3 N3 lD
    dsimp only
    k_steps
    rename Fr _ _ _ _ => F3
    rename News _ _ _ _ => N3
    replace N3 := News.sub N3 (led' := (sl, _) :: (I, oI) :: (x, _) :: (dx, _) :: (y, _) :: (dy, _) :: (pl, _) :: (oc, _) :: (rc, _) :: tl) (by repeat (first | exact (fun _ h9 => h9) | exact (fun _ h9 => .tail _ h9)))
    unfold Hold
    refine Ctr.use F3 N3 (take_ctr (rest := (I, oI) :: (x, _) :: (dx, _) :: (y, _) :: (dy, _) :: (pl, _) :: (oc, _) :: (rc, _) :: tl) ha5 hb6 hb7 (by decide) (by decide) (cons_ne (fun e => hI (sl, _) (.head _) e.symm) (S.slne ap)))
      sub_refl (by k_asm) (by k_asm) (by k_asm) (by first | assumption | exact rfl) (by ktr_room) (by ktr_units) ?_
    rintro r6 h6 tk6 nx6 F6 N6 ⟨v3, tv3, a6, b6, t16, t26, n6, rfl, hv3, hv3', ha6, hb8, hb9, rfl⟩
    clear F3 N3
    dsimp only
    k_steps
    rename_i D3 hq4 F3 N3 lD
    obtain ⟨more, hmore⟩ : ∃ z, z = decide (0 < v3) := ⟨_, rfl⟩
    obtain ⟨bg, hbg⟩ : ∃ z, z = 8 * v1 := ⟨_, rfl⟩
    obtain ⟨oct1, hoc1⟩ : ∃ z, z = (100 * (i : Int)).fmod 256 := ⟨_, rfl⟩
    rw [← hmore, ← hbg] at F3
    rw [← hoc1] at N3
    have hocr : 0 ≤ oct1 ∧ oct1 < 256 := by rw [hoc1]; exact ⟨Int.fmod_nonneg_of_pos _ (by decide), Int.fmod_lt_of_pos _ (by decide)⟩
    have hbg0 : 0 ≤ bg := by rw [hbg]; exact (dbg hv1r hv2r).1
    have hbg44 : ¬ (bg ≤ 44 ∧ 44 < bg + v2) := by rw [hbg]; exact (dbg hv1r hv2r).2
    obtain ⟨m1, m2, m3, m4, m5, m6⟩ := dsmall hv2r
    clear hmore hbg hoc1 hv3 hv3'
    unfold Hold
    refine KMa.mul F3 N3 (News.isList N3 (.head _)) m1 m2 m3 List.flatten_replicate_singleton ?_
    intro D4 hq5 F4 N4 lD4
    replace N4 := News.sub N4 (led' := (D4, _) :: (sl, _) :: (I, oI) :: (x, _) :: (dx, _) :: (y, _) :: (dy, _) :: (pl, _) :: (oc, _) :: (rc, _) :: tl) (cons_mem (by k_mem) (fun _ h9 => .tail _ (.tail _ h9)))
    clear F3 N3 lD lD4
    k_steps
    have hIn : KBa.In (List.replicate v2.toNat oct1) := fun k hk => by obtain ⟨_, rfl⟩ := List.mem_replicate.mp hk; exact hocr
    unfold Hold
    refine KBa.make_K (D := D4) (by k_asm) (by k_asm) rfl (News.isList (by k_asm) (.head _)) (ints_rep _ _ _) hIn (by rw [List.length_replicate]; exact m4) ?_
    intro hq6 tb1 kb1 F5 N5 _
    obtain ⟨pay, hpay⟩ : ∃ z, z = List.replicate v2.toNat oct1 := ⟨_, rfl⟩
    obtain ⟨arr, harr⟩ : ∃ z, z = PySem.byteArr (List.replicate v2.toNat oct1) := ⟨_, rfl⟩
    have hba : KBw.bInts arr = pay := by rw [harr, hpay]; exact KBa.ints_make hIn
    have hpl : (pay.length : Int) = v2 := by rw [hpay, List.length_replicate]; exact m6
    have hp256 : ∀ v ∈ pay, 0 ≤ v ∧ v < 256 := by rw [hpay]; exact hIn
    rw [← harr]
    replace N5 := News.sub N5 (led' := (sl, _) :: (I, oI) :: (x, _) :: (dx, _) :: (y, _) :: (dy, _) :: (pl, _) :: (oc, _) :: (rc, _) :: tl) (fun _ h9 => .tail _ h9)
    clear F4 N4 hIn harr
    have hpl9 : pay.length < 1000 := by rw [hpay, List.length_replicate]; exact m5
    clear m1 m2 m3 m4 m5 m6
    subst hpl
    have hbe := dbe hv2
    clear hpay
    k_steps
    rename_i D5 hq8 F3 N3 lD
    unfold Hold
    refine KBa.make_K (D := D5) (ns := [1, 1, 1, (i : Int)]) (by k_asm) (by k_asm) rfl (News.isList (by k_asm) (.head _)) (.cons _ _ (.cons _ _ (.cons _ _ (.cons _ _ .nil)))) (dIn hi hc1) (by simp) ?_
    intro hq9 tb2 kb2 F4 N4 _
    replace N4 := News.sub N4 (led' := (sl, _) :: (I, oI) :: (x, _) :: (dx, _) :: (y, _) :: (dy, _) :: (pl, _) :: (oc, _) :: (rc, _) :: tl) (fun _ h9 => .tail _ h9)
    clear F3 N3 lD
    k_steps
    unfold Hold
    refine Ctr.use (by k_asm) (by k_asm) head_ctr sub_refl (by k_asm) (by k_asm) (by k_asm) (by first | assumption | exact rfl) (by ktr_room) (by ktr_units) ?_
    rintro r10 h10 tk10 nx10 F10 N10 ⟨H, Dh, oh, rfl, rfl, hoh, hHD, hab⟩
    dsimp only
    clear F4 N4
    k_steps
    obtain ⟨tad, hrod⟩ := S.rcd
    unfold Hold
    refine Ctr.use (by k_asm) (by k_asm) (denied_ctr (e := bg + (pay.length : Int)) (fin := d.fin) (by k_mem) hrod S.evo (by k_mem) S.oct S.kv lo1 lo0 (Nat.lt_trans S.inv.told64 (by decide))) sub_refl (by k_asm) (by k_asm) (by k_asm) (by first | assumption | exact rfl) (by ktr_room) (by ktr_units) ?_
    rintro r11 h11 tk11 nx11 F11 N11 ⟨rfl, rfl⟩
    dsimp only
    obtain ⟨endv, fv0, rl2, rowVals, nr, hod, hf, hg, hoy, hrl, hpr, hpp⟩ := S.dg
    have osl : @LT.lt Nat _ sl H ∧ @LT.lt Nat _ sl Dh := hab (sl, _) (.head _)
    have isl : @Ne Nat sl I := fun e => hI (sl, _) (.head _) e
    have ox : @LT.lt Nat _ x H ∧ @LT.lt Nat _ x Dh := hab (x, _) (.tail _ (.tail _ (.head _)))
    have ix : @Ne Nat x I := fun e => hI (x, _) (.tail _ (.head _)) e
    have odx : @LT.lt Nat _ dx H ∧ @LT.lt Nat _ dx Dh := hab (dx, _) (.tail _ (.tail _ (.tail _ (.head _))))
    have idx : @Ne Nat dx I := fun e => hI (dx, _) (.tail _ (.tail _ (.head _))) e
    have oy1 : @LT.lt Nat _ y H ∧ @LT.lt Nat _ y Dh := hab (y, _) (.tail _ (.tail _ (.tail _ (.tail _ (.head _)))))
    have iy : @Ne Nat y I := fun e => hI (y, _) (.tail _ (.tail _ (.tail _ (.head _)))) e
    have ody : @LT.lt Nat _ dy H ∧ @LT.lt Nat _ dy Dh := hab (dy, _) (.tail _ (.tail _ (.tail _ (.tail _ (.tail _ (.head _))))))
    have idy : @Ne Nat dy I := fun e => hI (dy, _) (.tail _ (.tail _ (.tail _ (.tail _ (.head _))))) e
    have opl : @LT.lt Nat _ pl H ∧ @LT.lt Nat _ pl Dh := hab (pl, _) (.tail _ (.tail _ (.tail _ (.tail _ (.tail _ (.tail _ (.head _)))))))
    have ipl : @Ne Nat pl I := fun e => hI (pl, _) (.tail _ (.tail _ (.tail _ (.tail _ (.tail _ (.head _)))))) e
    have ooc : @LT.lt Nat _ oc H ∧ @LT.lt Nat _ oc Dh := hab (oc, _) (.tail _ (.tail _ (.tail _ (.tail _ (.tail _ (.tail _ (.tail _ (.head _))))))))
    have ioc : @Ne Nat oc I := fun e => hI (oc, _) (.tail _ (.tail _ (.tail _ (.tail _ (.tail _ (.tail _ (.head _))))))) e
    have orc : @LT.lt Nat _ rc H ∧ @LT.lt Nat _ rc Dh := hab (rc, _) (.tail _ (.tail _ (.tail _ (.tail _ (.tail _ (.tail _ (.tail _ (.tail _ (.head _)))))))))
    have irc : @Ne Nat rc I := fun e => hI (rc, _) (.tail _ (.tail _ (.tail _ (.tail _ (.tail _ (.tail _ (.tail _ (.head _)))))))) e
    have oI2 : @LT.lt Nat _ I H ∧ @LT.lt Nat _ I Dh := hab (I, _) (.tail _ (.head _))
    have hH : HiH sl x dx y dy pl oc rc H Dh := ⟨osl.1, osl.2, ox.1, ox.2, odx.1, odx.2, oy1.1, oy1.2, ody.1, ody.2, opl.1, opl.2, ooc.1, ooc.2, orc.1, orc.2⟩
    cases hden : deniedF T d.fin d.ahead (bg + (pay.length : Int)) more with
    | true =>
      k_steps
      unfold Hold
      rename Fr _ _ _ _ => F12
      rename News _ _ _ _ => N12
      refine put_method F12 (by k_asm) N12 (.tail _ (.tail _ (.tail _ (.tail _ (.head _))))) (.tail _ (.tail _ (.tail _ (.tail _ (.tail _ (.head _)))))) hod ?_
      k_steps
      unfold Hold
      have hpa : againstF d.rows d.fin d.ahead (bg + (pay.length : Int)) more = true := by rw [S.inv.denied (Int.add_nonneg hbg0 (Int.natCast_nonneg _)), hden]
      refine Ctr.use F12 N12 (put_ctr (rest := (H, instObj 74 Dh) :: (Dh, oh) :: (sl, _) :: (I, oI) :: (oc, oo) :: (rc, ro) :: tl) (S.dg.mono fun p hp => (.tail _ (.tail _ (.tail _ (.tail _ (.tail _ (.tail _ hp))))))) (Nat.lt_of_le_of_lt S.inv.sep.length (by decide)) (Nat.lt_trans S.inv.parts64 (by decide)) (.head _) (.tail _ (.head _)) hoh hba hpl9
        ap.x2 ap.x3 ap.x4 ap.x5 ap.d3 ap.d4 ap.d5 ap.y4 ap.y5 ap.e5
        (cons_ne (Nat.ne_of_gt ox.1) (cons_ne (Nat.ne_of_gt ox.2) (cons_ne ap.s1 (cons_ne (fun e => ix e.symm) (cons_ne ap.x6.symm (cons_ne ap.x7.symm (fun p hp => (S.off p hp).2.1)))))))
        (cons_ne (Nat.ne_of_gt odx.1) (cons_ne (Nat.ne_of_gt odx.2) (cons_ne ap.s2 (cons_ne (fun e => idx e.symm) (cons_ne ap.d6.symm (cons_ne ap.d7.symm (fun p hp => (S.off p hp).2.2.1)))))))
        (cons_ne (Nat.ne_of_gt oy1.1) (cons_ne (Nat.ne_of_gt oy1.2) (cons_ne ap.s3 (cons_ne (fun e => iy e.symm) (cons_ne ap.y6.symm (cons_ne ap.y7.symm (fun p hp => (S.off p hp).2.2.2.1)))))))
        (cons_ne (Nat.ne_of_gt ody.1) (cons_ne (Nat.ne_of_gt ody.2) (cons_ne ap.s4 (cons_ne (fun e => idy e.symm) (cons_ne ap.e6.symm (cons_ne ap.e7.symm (fun p hp => (S.off p hp).2.2.2.2.1)))))))
        (cons_ne (Nat.ne_of_gt opl.1) (cons_ne (Nat.ne_of_gt opl.2) (cons_ne ap.s5 (cons_ne (fun e => ipl e.symm) (cons_ne ap.p6.symm (cons_ne ap.p7.symm (fun p hp => (S.off p hp).2.2.2.2.2.1))))))))
        (cons_mem (.tail _ (.tail _ (.tail _ (.tail _ (.head _))))) (cons_mem (.tail _ (.tail _ (.tail _ (.tail _ (.tail _ (.head _)))))) (cons_mem (.tail _ (.tail _ (.tail _ (.tail _ (.tail _ (.tail _ (.head _))))))) (cons_mem (.tail _ (.tail _ (.tail _ (.tail _ (.tail _ (.tail _ (.tail _ (.head _)))))))) (cons_mem (.tail _ (.tail _ (.tail _ (.tail _ (.tail _ (.tail _ (.tail _ (.tail _ (.head _))))))))) (cons_mem (.head _) (cons_mem (.tail _ (.head _)) (cons_mem (.tail _ (.tail _ (.head _))) (cons_mem (.tail _ (.tail _ (.tail _ (.head _)))) (cons_mem (.tail _ (.tail _ (.tail _ (.tail _ (.tail _ (.tail _ (.tail _ (.tail _ (.tail _ (.head _)))))))))) (cons_mem (.tail _ (.tail _ (.tail _ (.tail _ (.tail _ (.tail _ (.tail _ (.tail _ (.tail _ (.tail _ (.head _))))))))))) (fun _ h9 => (.tail _ (.tail _ (.tail _ (.tail _ (.tail _ (.tail _ (.tail _ (.tail _ (.tail _ (.tail _ (.tail _ h9)))))))))))))))))))))))
        (by k_asm) (by k_asm) (by k_asm) (by first | assumption | exact rfl) (by ktr_room) (by ktr_units) ?_
      rintro r13 h13 tk13 nx13 F13 N13 (⟨-, rfl, rfl⟩ | ⟨hpa', -⟩)
      · dsimp only
        clear F12 N12
        k_steps
        unfold Hold
        refine ne_bool_same rfl ?_
        k_steps
        unfold Hold
        refine Ctr.use F13 N13 (S.stands (.head _) (.tail _ (.head _)) (.tail _ (.tail _ (.head _))) (.tail _ (.tail _ (.tail _ (.head _)))) (.tail _ (.tail _ (.tail _ (.tail _ (.head _))))) (.tail _ (.tail _ (.tail _ (.tail _ (.tail _ (.tail _ (.tail _ (.tail _ (.tail _ (.head _)))))))))) (.tail _ (.tail _ (.tail _ (.tail _ (.tail _ (.tail _ (.tail _ (.tail _ (.tail _ (.tail _ (.head _))))))))))) (fun _ h9 => (.tail _ (.tail _ (.tail _ (.tail _ (.tail _ (.tail _ (.tail _ (.tail _ (.tail _ (.tail _ (.tail _ h9)))))))))))) lo1 lo0) sub_refl (by k_asm) (by k_asm) (by k_asm) (by first | assumption | exact rfl) (by ktr_room) (by ktr_units) ?_
        rintro r14 h14 tk14 nx14 F14 N14 ⟨rfl, rfl⟩
        dsimp only
        k_steps
        unfold Hold
        refine Ctr.use F14 N14 (bad_ctr (to := tb1) (.tail _ (.tail _ (.tail _ (.tail _ (.tail _ (.head _)))))) (.tail _ (.tail _ (.tail _ (.tail _ (.tail _ (.tail _ (.head _))))))) hoh hba hpl9) sub_refl (by k_asm) (by k_asm) (by k_asm) (by first | assumption | exact rfl) (by ktr_room) (by ktr_units) ?_
        rintro r15 h15 tk15 nx15 F15 N15 ⟨rfl, rfl⟩
        dsimp only
        rw [hbe]
        clear F13 N13 F14 N14
        cases more with
        | false =>
          k_steps
          unfold Hold
          refine ne_bool_same rfl ?_
          k_steps
          rename Fr _ _ _ _ => F16
          rename News _ _ _ _ => N17
          refine K9.next F16 N17 (cons_mem (.tail _ (.tail _ (.tail _ (.tail _ (.tail _ (.tail _ (.tail _ (.tail _ (.head _))))))))) (cons_mem (.tail _ (.tail _ (.tail _ (.tail _ (.tail _ (.tail _ (.tail _ (.head _)))))))) (cons_mem (.head _) (cons_mem (.tail _ (.head _)) (cons_mem (.tail _ (.tail _ (.head _))) (cons_mem (.tail _ (.tail _ (.tail _ (.head _)))) (cons_mem (.tail _ (.tail _ (.tail _ (.tail _ (.head _))))) (cons_mem (.tail _ (.tail _ (.tail _ (.tail _ (.tail _ (.tail _ (.tail _ (.tail _ (.tail _ (.head _)))))))))) (cons_mem (.tail _ (.tail _ (.tail _ (.tail _ (.tail _ (.tail _ (.tail _ (.tail _ (.tail _ (.tail _ (.head _))))))))))) (fun _ h9 => (.tail _ (.tail _ (.tail _ (.tail _ (.tail _ (.tail _ (.tail _ (.tail _ (.tail _ (.tail _ (.tail _ h9))))))))))))))))))))) (cons_ne isl (cons_ne ix (cons_ne idx (cons_ne iy (cons_ne idy (cons_ne ipl (cons_ne ioc (cons_ne irc (fun p hp => hI p (.tail _ (.tail _ (.tail _ (.tail _ (.tail _ (.tail _ (.tail _ (.tail _ hp))))))))))))))))) ⟨?_, d, T, tl, a6, b6, _, oy, oo, ro, pvs, kvs, ev, fv, t16, t26, n6, np, rfl, { S with a0 := ha6, b0 := hb8, b1 := hb9 }⟩
          intro z hz; repeat (first | refine if_off hz rfl ?_ | refine if_offL hz ?_ | exact rfl)
        | true =>
          k_steps
          unfold Hold
          rename News _ _ _ _ => N16
          refine notin_list_ints (News.isList N16 (.head _)) (.cons _ _ (.cons _ _ .nil)) ?_
          k_steps
          unfold Hold
          refine ne_bool_same rfl ?_
          k_steps
          rename Fr _ _ _ _ => F16
          rename News _ _ _ _ => N17
          refine K9.next F16 N17 (cons_mem (.tail _ (.tail _ (.tail _ (.tail _ (.tail _ (.tail _ (.tail _ (.tail _ (.tail _ (.head _)))))))))) (cons_mem (.tail _ (.tail _ (.tail _ (.tail _ (.tail _ (.tail _ (.tail _ (.tail _ (.head _))))))))) (cons_mem (.tail _ (.head _)) (cons_mem (.tail _ (.tail _ (.head _))) (cons_mem (.tail _ (.tail _ (.tail _ (.head _)))) (cons_mem (.tail _ (.tail _ (.tail _ (.tail _ (.head _))))) (cons_mem (.tail _ (.tail _ (.tail _ (.tail _ (.tail _ (.head _)))))) (cons_mem (.tail _ (.tail _ (.tail _ (.tail _ (.tail _ (.tail _ (.tail _ (.tail _ (.tail _ (.tail _ (.head _))))))))))) (cons_mem (.tail _ (.tail _ (.tail _ (.tail _ (.tail _ (.tail _ (.tail _ (.tail _ (.tail _ (.tail _ (.tail _ (.head _)))))))))))) (fun _ h9 => (.tail _ (.tail _ (.tail _ (.tail _ (.tail _ (.tail _ (.tail _ (.tail _ (.tail _ (.tail _ (.tail _ (.tail _ h9)))))))))))))))))))))) (cons_ne isl (cons_ne ix (cons_ne idx (cons_ne iy (cons_ne idy (cons_ne ipl (cons_ne ioc (cons_ne irc (fun p hp => hI p (.tail _ (.tail _ (.tail _ (.tail _ (.tail _ (.tail _ (.tail _ (.tail _ hp))))))))))))))))) ⟨?_, d, T, tl, a6, b6, _, oy, oo, ro, pvs, kvs, ev, fv, t16, t26, n6, np, rfl, { S with a0 := ha6, b0 := hb8, b1 := hb9 }⟩
          intro z hz; repeat (first | refine if_off hz rfl ?_ | refine if_offL hz ?_ | exact rfl)
      · rw [hpa] at hpa'; cases hpa'
    | false =>
      k_steps
      unfold Hold
      rename Fr _ _ _ _ => F12
      rename News _ _ _ _ => N12
      refine Ctr.use F12 N12 (taken_ctr (rest := (H, instObj 74 Dh) :: (Dh, oh) :: (sl, _) :: (I, oI) :: (x, _) :: (dx, _) :: (y, _) :: (dy, _) :: (pl, _) :: tl) ap.o7
        (cons_ne (Nat.ne_of_gt ooc.1) (cons_ne (Nat.ne_of_gt ooc.2) (cons_ne ap.s6 (cons_ne (fun e => ioc e.symm) (cons_ne ap.x6 (cons_ne ap.d6 (cons_ne ap.y6 (cons_ne ap.e6 (cons_ne ap.p6 (fun p hp => (S.off p hp).2.2.2.2.2.2.1))))))))))
        (cons_ne (Nat.ne_of_gt orc.1) (cons_ne (Nat.ne_of_gt orc.2) (cons_ne ap.s7 (cons_ne (fun e => irc e.symm) (cons_ne ap.x7 (cons_ne ap.d7 (cons_ne ap.y7 (cons_ne ap.e7 (cons_ne ap.p7 (fun p hp => (S.off p hp).2.2.2.2.2.2.2))))))))))
        S.rcd S.fvo S.oct S.kv lo1 lo0 (Nat.lt_trans S.inv.told64 (by decide)) hba hpl9)
        (cons_mem (.tail _ (.tail _ (.tail _ (.tail _ (.tail _ (.tail _ (.tail _ (.tail _ (.tail _ (.head _)))))))))) (cons_mem (.tail _ (.tail _ (.tail _ (.tail _ (.tail _ (.tail _ (.tail _ (.tail _ (.tail _ (.tail _ (.head _))))))))))) (cons_mem (.head _) (cons_mem (.tail _ (.head _)) (cons_mem (.tail _ (.tail _ (.head _))) (cons_mem (.tail _ (.tail _ (.tail _ (.head _)))) (cons_mem (.tail _ (.tail _ (.tail _ (.tail _ (.head _))))) (cons_mem (.tail _ (.tail _ (.tail _ (.tail _ (.tail _ (.head _)))))) (cons_mem (.tail _ (.tail _ (.tail _ (.tail _ (.tail _ (.tail _ (.head _))))))) (cons_mem (.tail _ (.tail _ (.tail _ (.tail _ (.tail _ (.tail _ (.tail _ (.head _)))))))) (cons_mem (.tail _ (.tail _ (.tail _ (.tail _ (.tail _ (.tail _ (.tail _ (.tail _ (.head _))))))))) (fun _ h9 => (.tail _ (.tail _ (.tail _ (.tail _ (.tail _ (.tail _ (.tail _ (.tail _ (.tail _ (.tail _ (.tail _ h9)))))))))))))))))))))))
        (by k_asm) (by k_asm) (by k_asm) (by first | assumption | exact rfl) (by ktr_room) (by ktr_units) ?_
      rintro r13 h13 tk13 nx13 F13 N13 ⟨ro2, oo2, kvs2, ev2, fv2, rfl, rfl, hrc2, hoo2, hkv2, hev2, hfv2⟩
      dsimp only
      clear F12 N12
      k_steps
      unfold Hold
      refine put_method F13 (by k_asm) N13 (.tail _ (.tail _ (.tail _ (.tail _ (.tail _ (.tail _ (.head _))))))) (.tail _ (.tail _ (.tail _ (.tail _ (.tail _ (.tail _ (.tail _ (.head _)))))))) hod ?_
      k_steps
      have hpa : againstF d.rows d.fin d.ahead (bg + (pay.length : Int)) more = false := by rw [S.inv.denied (Int.add_nonneg hbg0 (Int.natCast_nonneg _)), hden]
      unfold Hold
      refine Ctr.use F13 N13 (put_ctr (rest := (H, instObj 74 Dh) :: (Dh, oh) :: (sl, _) :: (I, oI) :: (oc, oo2) :: (rc, ro2) :: tl) (S.dg.mono fun p hp => (.tail _ (.tail _ (.tail _ (.tail _ (.tail _ (.tail _ hp))))))) (Nat.lt_of_le_of_lt S.inv.sep.length (by decide)) (Nat.lt_trans S.inv.parts64 (by decide)) (.head _) (.tail _ (.head _)) hoh hba hpl9
        ap.x2 ap.x3 ap.x4 ap.x5 ap.d3 ap.d4 ap.d5 ap.y4 ap.y5 ap.e5
        (cons_ne (Nat.ne_of_gt ox.1) (cons_ne (Nat.ne_of_gt ox.2) (cons_ne ap.s1 (cons_ne (fun e => ix e.symm) (cons_ne ap.x6.symm (cons_ne ap.x7.symm (fun p hp => (S.off p hp).2.1)))))))
        (cons_ne (Nat.ne_of_gt odx.1) (cons_ne (Nat.ne_of_gt odx.2) (cons_ne ap.s2 (cons_ne (fun e => idx e.symm) (cons_ne ap.d6.symm (cons_ne ap.d7.symm (fun p hp => (S.off p hp).2.2.1)))))))
        (cons_ne (Nat.ne_of_gt oy1.1) (cons_ne (Nat.ne_of_gt oy1.2) (cons_ne ap.s3 (cons_ne (fun e => iy e.symm) (cons_ne ap.y6.symm (cons_ne ap.y7.symm (fun p hp => (S.off p hp).2.2.2.1)))))))
        (cons_ne (Nat.ne_of_gt ody.1) (cons_ne (Nat.ne_of_gt ody.2) (cons_ne ap.s4 (cons_ne (fun e => idy e.symm) (cons_ne ap.e6.symm (cons_ne ap.e7.symm (fun p hp => (S.off p hp).2.2.2.2.1)))))))
        (cons_ne (Nat.ne_of_gt opl.1) (cons_ne (Nat.ne_of_gt opl.2) (cons_ne ap.s5 (cons_ne (fun e => ipl e.symm) (cons_ne ap.p6.symm (cons_ne ap.p7.symm (fun p hp => (S.off p hp).2.2.2.2.2.1))))))))
        (cons_mem (.tail _ (.tail _ (.tail _ (.tail _ (.tail _ (.tail _ (.head _))))))) (cons_mem (.tail _ (.tail _ (.tail _ (.tail _ (.tail _ (.tail _ (.tail _ (.head _)))))))) (cons_mem (.tail _ (.tail _ (.tail _ (.tail _ (.tail _ (.tail _ (.tail _ (.tail _ (.head _))))))))) (cons_mem (.tail _ (.tail _ (.tail _ (.tail _ (.tail _ (.tail _ (.tail _ (.tail _ (.tail _ (.head _)))))))))) (cons_mem (.tail _ (.tail _ (.tail _ (.tail _ (.tail _ (.tail _ (.tail _ (.tail _ (.tail _ (.tail _ (.head _))))))))))) (cons_mem (.tail _ (.tail _ (.head _))) (cons_mem (.tail _ (.tail _ (.tail _ (.head _)))) (cons_mem (.tail _ (.tail _ (.tail _ (.tail _ (.head _))))) (cons_mem (.tail _ (.tail _ (.tail _ (.tail _ (.tail _ (.head _)))))) (cons_mem (.head _) (cons_mem (.tail _ (.head _)) (fun _ h9 => (.tail _ (.tail _ (.tail _ (.tail _ (.tail _ (.tail _ (.tail _ (.tail _ (.tail _ (.tail _ (.tail _ h9)))))))))))))))))))))))
        (by k_asm) (by k_asm) (by k_asm) (by first | assumption | exact rfl) (by ktr_room) (by ktr_units) ?_
      rintro r14 h14 tk14 nx14 F14 N14 (⟨hpa', -⟩ | ⟨-, d', od', oy', pvs', np', nw, hd', rfl, rfl, hdn, hab2⟩)
      · rw [hpa] at hpa'; cases hpa'
      subst hd'
      have S' := S.step (oh := oh) hH hden hbg0 hbg44 hp256 hrc2 hoo2 hkv2 hev2 hfv2 hdn hab2
      have hI' : ∀ p ∈ nw ++ ((H, instObj 74 Dh) :: (Dh, oh) :: tl), p.1 ≠ I := fun p hp => by
        rcases List.mem_append.mp hp with hp | hp
        · exact Nat.ne_of_gt (hab2 p hp (I, _) (.tail _ (.tail _ (.tail _ (.tail _ (.tail _ (.tail _ (.tail _ (.tail _ (.head _))))))))))
        rcases List.mem_cons.mp hp with rfl | hp
        · exact Nat.ne_of_gt oI2.1
        rcases List.mem_cons.mp hp with rfl | hp
        · exact Nat.ne_of_gt oI2.2
        · exact hI p (.tail _ (.tail _ (.tail _ (.tail _ (.tail _ (.tail _ (.tail _ (.tail _ hp))))))))
      replace N14 := News.sub N14 (led' := (I, oI) :: (sl, _) :: (x, _) :: (dx, _) :: (y, _) :: (dy, _) :: (pl, _) :: (oc, _) :: (rc, _) :: (nw ++ ((H, instObj 74 Dh) :: (Dh, oh) :: tl))) (perm_step _ _ _ _ _ _ _ _ _ _ _ _ _)
      dsimp only
      clear F13 N13 hab2 hdn
      k_steps
      unfold Hold
      refine ne_bool_same rfl ?_
      k_steps
      unfold Hold
      refine Ctr.use F14 N14 (S'.stands (.tail _ (.tail _ (.head _))) (.tail _ (.tail _ (.tail _ (.head _)))) (.tail _ (.tail _ (.tail _ (.tail _ (.head _))))) (.tail _ (.tail _ (.tail _ (.tail _ (.tail _ (.head _)))))) (.tail _ (.tail _ (.tail _ (.tail _ (.tail _ (.tail _ (.head _))))))) (.tail _ (.tail _ (.tail _ (.tail _ (.tail _ (.tail _ (.tail _ (.head _)))))))) (.tail _ (.tail _ (.tail _ (.tail _ (.tail _ (.tail _ (.tail _ (.tail _ (.head _))))))))) (fun _ h9 => (.tail _ (.tail _ (.tail _ (.tail _ (.tail _ (.tail _ (.tail _ (.tail _ (.tail _ h9)))))))))) lo1 lo0) sub_refl (by k_asm) (by k_asm) (by k_asm) (by first | assumption | exact rfl) (by ktr_room) (by ktr_units) ?_
      rintro r15 h15 tk15 nx15 F15 N15 ⟨rfl, rfl⟩
      dsimp only
      k_steps
      unfold Hold
      refine Ctr.use F15 N15 (bad_ctr (to := tb1) (.tail _ (.tail _ (.tail _ (.tail _ (.tail _ (.tail _ (.tail _ (.tail _ (.tail _ (List.mem_append_right _ (.head _))))))))))) (.tail _ (.tail _ (.tail _ (.tail _ (.tail _ (.tail _ (.tail _ (.tail _ (.tail _ (List.mem_append_right _ (.tail _ (.head _)))))))))))) hoh hba hpl9) sub_refl (by k_asm) (by k_asm) (by k_asm) (by first | assumption | exact rfl) (by ktr_room) (by ktr_units) ?_
      rintro r16 h16 tk16 nx16 F16 N16 ⟨rfl, rfl⟩
      dsimp only
      rw [hbe]
      clear F14 N14 F15 N15
      cases more with
      | false =>
          k_steps
          unfold Hold
          refine ne_bool_same rfl ?_
          k_steps
          rename Fr _ _ _ _ => F16
          rename News _ _ _ _ => N17
          refine K9.next F16 N17 (cons_mem (.head _) (cons_mem (.tail _ (.head _)) (cons_mem (.tail _ (.tail _ (.head _))) (cons_mem (.tail _ (.tail _ (.tail _ (.head _)))) (cons_mem (.tail _ (.tail _ (.tail _ (.tail _ (.head _))))) (cons_mem (.tail _ (.tail _ (.tail _ (.tail _ (.tail _ (.head _)))))) (cons_mem (.tail _ (.tail _ (.tail _ (.tail _ (.tail _ (.tail _ (.head _))))))) (cons_mem (.tail _ (.tail _ (.tail _ (.tail _ (.tail _ (.tail _ (.tail _ (.head _)))))))) (cons_mem (.tail _ (.tail _ (.tail _ (.tail _ (.tail _ (.tail _ (.tail _ (.tail _ (.head _))))))))) (fun _ h9 => (.tail _ (.tail _ (.tail _ (.tail _ (.tail _ (.tail _ (.tail _ (.tail _ (.tail _ h9))))))))))))))))))) (cons_ne isl (cons_ne ix (cons_ne idx (cons_ne iy (cons_ne idy (cons_ne ipl (cons_ne ioc (cons_ne irc (hI'))))))))) ⟨?_, _, _, _, a6, b6, _, _, _, _, _, _, _, _, t16, t26, n6, _, rfl, { S' with a0 := ha6, b0 := hb8, b1 := hb9 }⟩
          intro z hz; repeat (first | refine if_off hz rfl ?_ | refine if_offL hz ?_ | exact rfl)
      | true =>
          k_steps
          unfold Hold
          rename News _ _ _ _ => N16
          refine notin_list_ints (News.isList N16 (.head _)) (.cons _ _ (.cons _ _ .nil)) ?_
          k_steps
          unfold Hold
          refine ne_bool_same rfl ?_
          k_steps
          rename Fr _ _ _ _ => F16
          rename News _ _ _ _ => N17
          refine K9.next F16 N17 (cons_mem (.tail _ (.head _)) (cons_mem (.tail _ (.tail _ (.head _))) (cons_mem (.tail _ (.tail _ (.tail _ (.head _)))) (cons_mem (.tail _ (.tail _ (.tail _ (.tail _ (.head _))))) (cons_mem (.tail _ (.tail _ (.tail _ (.tail _ (.tail _ (.head _)))))) (cons_mem (.tail _ (.tail _ (.tail _ (.tail _ (.tail _ (.tail _ (.head _))))))) (cons_mem (.tail _ (.tail _ (.tail _ (.tail _ (.tail _ (.tail _ (.tail _ (.head _)))))))) (cons_mem (.tail _ (.tail _ (.tail _ (.tail _ (.tail _ (.tail _ (.tail _ (.tail _ (.head _))))))))) (cons_mem (.tail _ (.tail _ (.tail _ (.tail _ (.tail _ (.tail _ (.tail _ (.tail _ (.tail _ (.head _)))))))))) (fun _ h9 => (.tail _ (.tail _ (.tail _ (.tail _ (.tail _ (.tail _ (.tail _ (.tail _ (.tail _ (.tail _ h9)))))))))))))))))))) (cons_ne isl (cons_ne ix (cons_ne idx (cons_ne iy (cons_ne idy (cons_ne ipl (cons_ne ioc (cons_ne irc (hI'))))))))) ⟨?_, _, _, _, a6, b6, _, _, _, _, _, _, _, _, t16, t26, n6, _, rfl, { S' with a0 := ha6, b0 := hb8, b1 := hb9 }⟩
          intro z hz; repeat (first | refine if_off hz rfl ?_ | refine if_offL hz ?_ | exact rfl)
  case done =>
    rintro m₁ nx h tk ⟨hm, d, T, tl, a, b, od, oy, oo, ro, pvs, kvs, ev, fv, t1, t2, n, np, rfl, S⟩ F2 N2
    clear FR NR IR S0
    replace F2 := Fr.only stored7 F2 hm
    clear hm
    k_steps
    rename Fr h₀ L _ m => F'
    rename News h₀ L _ _ => N'
    exact hret _ _ _ _ F' (News.sub N' (cons_mem (by k_mem) fun p hp => (by repeat (first | exact S.keep p hp | refine List.Mem.tail _ ?_)))) ⟨rfl, _, _, _, _, _, S.a0, S.b0, S.b1, rfl⟩
end
/-! part: Hdr -/
section
open SeqAt
/-- a header's dict -/
inductive HdrV (o : Obj) (s tg p i ttl tos : Int) (dont more : Bool) (off : Int) (opt : Array UInt8) : Prop
  | mk (g1 g2 g3 g4 g5 g6 g7 g8 g9 g0 : Int) (k1 k2 k3 k4 k5 k6 k7 k8 k9 k0 : Tok) (t1 t2 t3 t4 t5 t6 t9 t0 : Tok)
    (h : o = dictOf [⟨g1, .str (Str.ofString "source") k1, .int s t1⟩, ⟨g2, .str (Str.ofString "target") k2, .int tg t2⟩, ⟨g3, .str (Str.ofString "protocol") k3, .int p t3⟩, ⟨g4, .str (Str.ofString "ident") k4, .int i t4⟩,
      ⟨g5, .str (Str.ofString "ttl") k5, .int ttl t5⟩, ⟨g6, .str (Str.ofString "tos") k6, .int tos t6⟩, ⟨g7, .str (Str.ofString "dont") k7, .bool dont⟩, ⟨g8, .str (Str.ofString "more") k8, .bool more⟩, ⟨g9, .str (Str.ofString "offset") k9, .int off t9⟩,
      ⟨g0, .str (Str.ofString "options") k0, .bytes opt t0⟩] 10)
theorem HdrO.v {o : Obj} {s tg p i ttl tos : Int} {dont more : Bool} {off : Int} {opt : Array UInt8} {t1 t2 t3 t4 t5 t6 t9 t0 : Tok} (h : HdrO o (.int s t1) (.int tg t2) (.int p t3) (.int i t4) (.int ttl t5) (.int tos t6) (.bool dont) (.bool more) (.int off t9) (.bytes opt t0)) : HdrV o s tg p i ttl tos dont more off opt := by
  obtain ⟨g1, g2, g3, g4, g5, g6, g7, g8, g9, g0, k1, k2, k3, k4, k5, k6, k7, k8, k9, k0, e⟩ := h
  exact ⟨_, _, _, _, _, _, _, _, _, _, _, _, _, _, _, _, _, _, _, _, _, _, _, _, _, _, _, _, e⟩
inductive KeyPost (sr tg p i : Int) (led : List (Addr × Obj)) (r : Value) (nx : List (Addr × Obj)) : Prop
  | mk (T : Addr) (t1 t2 t3 t4 : Tok) (e : r = .ref T) (e2 : nx = (T, tupO [.int sr t1, .int tg t2, .int p t3, .int i t4]) :: led) (h : ∀ p ∈ led, @LT.lt Nat _ p.1 T)
inductive HdPost (sr tg p i ttl tos : Int) (dont more : Bool) (off : Int) (arr : Array UInt8) (led : List (Addr × Obj)) (r : Value) (nx : List (Addr × Obj)) : Prop
  | mk (H D : Addr) (oh : Obj) (e : r = .ref H) (e2 : nx = (H, instObj 74 D) :: (D, oh) :: led) (h1 : HdrV oh sr tg p i ttl tos dont more off arr) (h2 : @LT.lt Nat _ D H) (h3 : ∀ p ∈ led, @LT.lt Nat _ p.1 D)
inductive RowPost (sr tg p i ttl tos : Int) (dont more : Bool) (off : Int) (arr : Array UInt8) (led : List (Addr × Obj)) (r : Value) (nx : List (Addr × Obj)) : Prop
  | mk (T : Addr) (t1 t2 t3 t4 t5 t6 t9 t0 : Tok) (e : r = .ref T) (e2 : nx = (T, tupO [.int sr t1, .int tg t2, .int p t3, .int i t4, .int ttl t5, .int tos t6, .bool dont, .bool more, .int off t9, .bytes arr t0]) :: led) (h : ∀ p ∈ led, @LT.lt Nat _ p.1 T)
theorem keyof_ctr {w : World} {mean : ExcName → Option Value} {mg mb : PySem.Str → Option Value} {led : List (Addr × Obj)} {H D : Addr} {oh : Obj} {sr tg p i ttl tos : Int} {dont more : Bool} {off : Int} {arr : Array UInt8}
   (hh : (H, instObj 74 D) ∈ led) (hd : (D, oh) ∈ led) (ho : HdrV oh sr tg p i ttl tos dont more off arr) :
   Ctr w mean mg mb 195 [.ref H] led 4 32
     (KeyPost sr tg p i led) := by
  obtain ⟨g1, g2, g3, g4, g5, g6, g7, g8, g9, g0, k1, k2, k3, k4, k5, k6, k7, k8, k9, k0, t1, t2, t3, t4, t5, t6, t9, t0, rfl⟩ := ho
  unfold Ctr
  k_fill
  intro dp un gd cn cs ca ccd cl outer A₀ base h₀ L m s Q E B F X N T hk hd hu hret
  refine wpAny_call ?_
  k_dflt ktr_enter
  rename Fr _ _ _ _ => lF
  replace lF : Fr _ _ _ (fun y => List.lookup y [(Str.ofString "header", Value.ref H)]) := lF
  k_steps
  rename Fr h₀ L _ m => F'
  rename News h₀ L _ _ => N'
  exact hret _ _ _ _ F' N' ⟨_, _, _, _, _, rfl, rfl, by assumption⟩
theorem whead_ctr {w : World} {mean : ExcName → Option Value} {mg mb : PySem.Str → Option Value} {led : List (Addr × Obj)} {H D : Addr} {oh : Obj} {sr tg p i ttl tos : Int} {dont more : Bool} {off : Int} {arr : Array UInt8}
   (hh : (H, instObj 74 D) ∈ led) (hd : (D, oh) ∈ led) (ho : HdrV oh sr tg p i ttl tos dont more off arr) :
   Ctr w mean mg mb 188 [.ref H] led 8 64
     (HdPost sr tg p i ttl tos dont false 0 arr led) := by
  obtain ⟨g1, g2, g3, g4, g5, g6, g7, g8, g9, g0, k1, k2, k3, k4, k5, k6, k7, k8, k9, k0, t1, t2, t3, t4, t5, t6, t9, t0, rfl⟩ := ho
  unfold Ctr
  k_fill
  intro dp un gd cn cs ca ccd cl outer A₀ base h₀ L m s Q E B F X N T hk hd hu hret
  refine wpAny_call ?_
  k_dflt ktr_enter
  rename Fr _ _ _ _ => lF
  replace lF : Fr _ _ _ (fun y => List.lookup y [(Str.ofString "header", Value.ref H)]) := lF
  k_steps
  unfold Hold
  refine Ctr.use (by k_asm) (by k_asm) newh_ctr sub_refl (by k_asm) (by k_asm) (by k_asm) (by first | assumption | exact rfl) (by ktr_room) (by ktr_units) ?_
  rintro r8 h8 tk8 nx8 F8 N8 ⟨H', D', oh', rfl, rfl, hoh', l2, l1⟩
  clear F N
  dsimp only
  k_steps
  rename Fr h₀ L _ m => F'
  rename News h₀ L _ (_ :: _ :: led) => N'
  exact hret _ _ _ _ F' N' ⟨_, _, _, rfl, rfl, hoh'.v, l2, l1⟩
theorem row_ctr {w : World} {mean : ExcName → Option Value} {mg mb : PySem.Str → Option Value} {led : List (Addr × Obj)} {H D : Addr} {oh : Obj} {sr tg p i ttl tos : Int} {dont more : Bool} {off : Int} {arr : Array UInt8}
   (hh : (H, instObj 74 D) ∈ led) (hd : (D, oh) ∈ led) (ho : HdrV oh sr tg p i ttl tos dont more off arr) :
   Ctr w mean mg mb 71 [.ref H] led 4 32
     (RowPost sr tg p i ttl tos dont more off arr led) := by
  obtain ⟨g1, g2, g3, g4, g5, g6, g7, g8, g9, g0, k1, k2, k3, k4, k5, k6, k7, k8, k9, k0, t1, t2, t3, t4, t5, t6, t9, t0, rfl⟩ := ho
  unfold Ctr
  k_fill
  intro dp un gd cn cs ca ccd cl outer A₀ base h₀ L m s Q E B F X N T hk hd hu hret
  refine wpAny_call ?_
  k_dflt ktr_enter
  rename Fr _ _ _ _ => lF
  replace lF : Fr _ _ _ (fun y => List.lookup y [(Str.ofString "self", Value.ref H)]) := lF
  k_steps
  rename Fr h₀ L _ m => F'
  rename News h₀ L _ _ => N'
  exact hret _ _ _ _ F' N' ⟨_, _, _, _, _, _, _, _, _, rfl, rfl, by assumption⟩
section
variable {prog : Program} {w : World} {A : Around} {E : Value → Shared → Prop} {s : Shared}
theorem eqat_bytes (b : Array UInt8) (t u : Tok) : EqAt A s (.bytes b t) (.bytes b u) true := fun prog w E Q h => by
  unfold eqBool
  refine wpAny_holding ?_
  refine wpAny_ite_split (fun hab => wpAny_bind (wpAny_rule (wpAny_pure h))) (fun _ => ?_)
  refine wpAny_bind ?_
  show wpAny _ _ (compareOp .Eq (.bytes b t) (.bytes b u)) _ _ _
  refine eq_bytes ?_
  rw [show (b.toList == b.toList) = true from by simp]
  exact wpAny_truthy_bool h
theorem rows_eq {g : Heap} {L : Addr} {led : List (Addr × Obj)} {T1 T2 : Addr} {sr tg p i ttl tos : Int} {dont more : Bool} {off : Int} {arr : Array UInt8} {e1 e2 e3 e4 e5 e6 e9 e0 f1 f2 f3 f4 f5 f6 f9 f0 : Tok} {Q : Value → Shared → Prop} (N : News g L s.heap led)
   (h1 : (T1, tupO [.int sr e1, .int tg e2, .int p e3, .int i e4, .int ttl e5, .int tos e6, .bool dont, .bool more, .int off e9, .bytes arr e0]) ∈ led)
   (h2 : (T2, tupO [.int sr f1, .int tg f2, .int p f3, .int i f4, .int ttl f5, .int tos f6, .bool dont, .bool more, .int off f9, .bytes arr f0]) ∈ led) (hu : A.units < cLine) (hq : Q (.bool true) s) :
   wpAny (model prog w) A (compareOp .Eq (.ref T1) (.ref T2)) Q E s := by
  have al10 : (List.range 10).all (fun _ => true) = true := by decide
  have same : ∀ (a : Int) (t u : Tok), EqAt A.in1 s (.int a t) (.int a u) true := fun a t u => by
    have := EqAt.int_int (A := A.in1) (s := s) a t a u
    rwa [show (a == a) = true from by simp] at this
  refine eq_tupleAt (e := fun _ => true) ⟨_, (N _ h1).1, rfl, _, rfl⟩ ⟨_, (N _ h2).1, rfl, _, rfl⟩ hu (fun j hj _ => ?_) (by simpa [al10] using hq)
  have hj' : j < 10 := by simpa using hj
  have : j = 0 ∨ j = 1 ∨ j = 2 ∨ j = 3 ∨ j = 4 ∨ j = 5 ∨ j = 6 ∨ j = 7 ∨ j = 8 ∨ j = 9 := by omega
  rcases this with rfl | rfl | rfl | rfl | rfl | rfl | rfl | rfl | rfl | rfl
  · exact same _ _ _
  · exact same _ _ _
  · exact same _ _ _
  · exact same _ _ _
  · exact same _ _ _
  · exact same _ _ _
  · exact EqAt.same _
  · exact EqAt.same _
  · exact same _ _ _
  · exact eqat_bytes _ _ _
end
end
/-! part: Heads -/
section
local macro_rules | `(tactic| walk_at "call type:bytes") => `(tactic| (k_here; (with_reducible show wpAny _ _ (call (Value.type "bytes") [Value.int _ _]) _ _ _); refine call_bytes_count (by decide) (by decide) ?_; intro tb' kb'; (try dsimp only)))
local macro_rules | `(tactic| walk_at "call type:bytes") => `(tactic| (k_here; (with_reducible show wpAny _ _ (call (Value.type "bytes") [Value.ref _]) _ _ _); refine KBa.make_K (ns := [7, 7, 4, 0]) (by k_asm) (by k_asm) rfl (News.isList (by k_asm) (.head _)) (.cons _ _ (.cons _ _ (.cons _ _ (.cons _ _ .nil)))) (by intro k hk; simp only [List.mem_cons, List.not_mem_nil, or_false] at hk; omega) (by decide) ?_; intro hb' tb' kb' F' N' in'; (try dsimp only)))
local macro_rules | `(tactic| walk_at "exec If") => `(tactic| (k_here; refine hold ?_))
local macro_rules | `(tactic| walk_at "compareOp NotEq bool bool") => `(tactic| (k_here; refine hold ?_))
theorem heads_ctr {w : World} {mean : ExcName → Option Value} {mg mb : PySem.Str → Option Value} {sl : Addr} {a b : Int} {t1 t2 : Tok} {n : Nat} {rest : List (Addr × Obj)}
   (h1 : 0 ≤ a) (h2 : 0 ≤ b) (h3 : b < 2147483647) (hr : ∀ p ∈ rest, p.1 ≠ sl) :
   Ctr w mean mg mb 323 [.ref sl] ((sl, listOf #[.int a t1, .int b t2] n) :: rest) 16 128
     (SrcPost sl rest) := by
  unfold Ctr
  k_fill
  intro dp un gd cn cs ca ccd cl outer A₀ base h₀ L m s Q E B F X N T hk hd hu hret
  refine wpAny_call ?_
  k_dflt ktr_enter
  rename Fr _ _ _ _ => lF
  replace lF : Fr _ _ _ (fun y => List.lookup y [(Str.ofString "source", Value.ref sl)]) := lF
  k_steps
  rename_i D hq lD hq2 F3 N3
  unfold Hold
  refine Ctr.use F3 N3 (take_ctr (rest := (D, _) :: rest) h1 h2 h3 (by decide) (by decide) (cons_ne (Nat.ne_of_gt lD.1) hr)) (cons_mem (by k_mem) (cons_mem (by k_mem) (fun _ h9 => .tail _ (.tail _ h9)))) (by k_asm) (by k_asm) (by k_asm) (by first | assumption | exact rfl) (by ktr_room) (by ktr_units) ?_
  rintro r4 h4 tk4 nx4 F4 N4 ⟨c, tc, a4, b4, t14, t24, n4, rfl, hc0, hc1, ha4, hb4, hb5, rfl⟩
  dsimp only
  clear F3 N3 lD
  k_steps
  rename_i D2 c2 hz2 lD2 hz3 F5 N5
  unfold Hold
  obtain ⟨w0, w1, w2, w3, x0, x1, x2, x3, N6⟩ : ∃ w0 w1 w2 w3 x0 x1 x2 x3 : Tok, News _ _ _ ((D2, listOf #[.int 10 x0, .int 20 x1, .int 17 x2, .int 3 x3] c2) :: (sl, listOf #[.int a4 t14, .int b4 t24] n4) :: (D, listOf #[.int 10 w0, .int 20 w1, .int 17 w2, .int 3 w3] 0) :: rest) := ⟨_, _, _, _, _, _, _, _, N5⟩
  clear N5
  refine wpAny_mono (Q := fun f s' => Hold (f = Flow.next ∧ Ex11 fun h' tk' o0 o1 o2 o3 u0 u1 u2 u3 nn => An4 (s' = { s with heap := h', toks := tk' }) (sameF F5 h') (sameN N6 h' ((D2, listOf #[.int o0 u0, .int o1 u1, .int o2 u2, .int o3 u3] nn) :: (sl, listOf #[.int a4 t14, .int b4 t24] n4) :: (D, listOf #[.int 10 w0, .int 20 w1, .int 17 w2, .int 3 w3] 0) :: rest)) ((o0 = 10 ∧ o1 = 20 ∧ o2 = 17 ∧ o3 = 3) ↔ 3 < c))) ?_ ?_ (fun _ _ x => x)
  · refine wpAny_If ?_
    by_cases hc : 3 < c
    · k_steps
      unfold Hold
      exact ⟨rfl, _, _, _, _, _, _, _, _, _, _, _, rfl, F5, N6, fun _ => hc, fun _ => ⟨rfl, rfl, rfl, rfl⟩⟩
    · have hcs : c = 0 ∨ c = 1 ∨ c = 2 ∨ c = 3 := by omega
      rcases hcs with rfl | rfl | rfl | rfl
      all_goals k_steps
      all_goals unfold Hold
      all_goals (rename Fr _ _ _ _ => F7; rename News _ _ _ _ => N7)
      all_goals exact ⟨rfl, _, _, _, _, _, _, _, _, _, _, _, rfl, F7, N7, by decide⟩
  · rintro f s' hf
    unfold Hold at hf
    obtain ⟨rfl, h7, tk7, o0, o1, o2, o3, u0, u1, u2, u3, nn, rfl, F7, N7, hfact⟩ := hf
    unfold sameF at F7
    unfold sameN at N7
    clear F5 N6
    k_steps
    unfold Hold
    refine Ctr.use (by k_asm) (by k_asm) newh_ctr sub_refl (by k_asm) (by k_asm) (by k_asm) (by first | assumption | exact rfl) (by ktr_room) (by ktr_units) ?_
    rintro rA hA tkA nxA FA NA ⟨HA, DA, ohA, rfl, rfl, hvA, -, -⟩
    dsimp only
    k_steps
    unfold Hold
    refine Ctr.use (by k_asm) (by k_asm) newh_ctr sub_refl (by k_asm) (by k_asm) (by k_asm) (by first | assumption | exact rfl) (by ktr_room) (by ktr_units) ?_
    rintro rB hB tkB nxB FB NB ⟨HB, DB, ohB, rfl, rfl, hvB, -, -⟩
    dsimp only
    try clear FA
    try clear NA
    k_steps
    unfold Hold
    refine wpAny_If ?_
    k_steps
    rename Fr _ _ _ _ => F8
    rename News _ _ _ _ => N8
    unfold Hold
    refine Ctr.use F8 N8 (keyof_ctr (.tail _ (.tail _ (.head _))) (.tail _ (.tail _ (.tail _ (.head _)))) hvA.v) sub_refl (by k_asm) (by k_asm) (by k_asm) (by first | assumption | exact rfl) (by ktr_room) (by ktr_units) ?_
    rintro r9 h9 tk9 nx9 F9 N9 ⟨T1, y1, y2, y3, y4, rfl, rfl, lT1⟩
    clear F8 N8
    dsimp only
    k_steps
    unfold Hold
    refine Ctr.use F9 N9 (keyof_ctr (.tail _ (.head _)) (.tail _ (.tail _ (.head _))) hvB.v) sub_refl (by k_asm) (by k_asm) (by k_asm) (by first | assumption | exact rfl) (by ktr_room) (by ktr_units) ?_
    rintro r10 h10 tk10 nx10 F10 N10 ⟨T2, z1, z2, z3, z4, rfl, rfl, lT2⟩
    clear N9 F9
    dsimp only
    replace N10 := News.sub N10 (led' := (T2, tupO [.int o0 z1, .int o1 z2, .int o2 z3, .int o3 z4]) :: (T1, tupO [.int 10 y1, .int 20 y2, .int 17 y3, .int 3 y4]) :: (sl, listOf #[.int a4 t14, .int b4 t24] n4) :: rest) (cons_mem (.head _) (cons_mem (.tail _ (.head _)) (cons_mem (.tail _ (.tail _ (.tail _ (.tail _ (.tail _ (.tail _ (.tail _ (.head _)))))))) (fun _ h9 => (.tail _ (.tail _ (.tail _ (.tail _ (.tail _ (.tail _ (.tail _ (.tail _ (.tail _ h9)))))))))))))
    k_steps
    unfold Hold
    refine ne_bool_same (by rw [Bool.eq_iff_iff]; simp only [Bool.and_eq_true, beq_iff_eq, decide_eq_true_eq, ← hfact]; omega) ?_
    replace N10 := News.sub N10 (led' := (sl, listOf #[.int a4 t14, .int b4 t24] n4) :: rest) (fun p hp => .tail _ (.tail _ hp))
    clear lT1 lT2 hvA hvB
    k_steps
    unfold Hold
    refine Ctr.use (by k_asm) (by k_asm) newh_ctr sub_refl (by k_asm) (by k_asm) (by k_asm) (by first | assumption | exact rfl) (by ktr_room) (by ktr_units) ?_
    rintro rC hC tkC nxC FC NC ⟨HC, DC, ohC, rfl, rfl, hvC, -, -⟩
    dsimp only
    k_steps
    rename Fr _ _ _ _ => F8
    rename News _ _ _ _ => N8
    unfold Hold
    refine Ctr.use F8 N8 (whead_ctr (.head _) (.tail _ (.head _)) hvC.v) sub_refl (by k_asm) (by k_asm) (by k_asm) (by first | assumption | exact rfl) (by ktr_room) (by ktr_units) ?_
    rintro r11 h11 tk11 nx11 F11 N11 ⟨H3, D3, oh3, rfl, rfl, hh3, hlt3, hle3⟩
    dsimp only
    replace N11 := News.sub N11 (led' := (H3, _) :: (D3, oh3) :: (sl, listOf #[.int a4 t14, .int b4 t24] n4) :: rest) (cons_mem (.head _) (cons_mem (.tail _ (.head _)) (cons_mem (.tail _ (.tail _ (.tail _ (.tail _ (.tail _ (.head _)))))) (fun _ h9 => (.tail _ (.tail _ (.tail _ (.tail _ (.tail _ (.tail _ h9))))))))))
    clear F8 N8 hle3
    have hh4 := hh3
    obtain ⟨_, _, _, _, _, _, _, _, _, _, _, _, _, _, _, _, _, _, _, _, _, _, _, _, _, _, _, _, rfl⟩ := hh3
    k_steps
    rename Fr _ _ _ _ => F8
    rename News _ _ _ _ => N8
    unfold Hold
    refine Ctr.use F8 N8 (row_ctr (.head _) (.tail _ (.head _)) hh4) sub_refl (by k_asm) (by k_asm) (by k_asm) (by first | assumption | exact rfl) (by ktr_room) (by ktr_units) ?_
    rintro r12 h12 tk12 nx12 F12 N12 ⟨T3, e1, e2, e3, e4, e5, e6, e9, e0, rfl, rfl, lT3⟩
    dsimp only
    replace N12 := News.sub N12 (led' := (T3, _) :: (sl, listOf #[.int a4 t14, .int b4 t24] n4) :: rest) (cons_mem (.head _) (fun p hp => .tail _ (.tail _ (.tail _ hp))))
    clear F8 N8 lT3 hvC hh4
    k_steps
    unfold Hold
    refine Ctr.use (by k_asm) (by k_asm) newh_ctr sub_refl (by k_asm) (by k_asm) (by k_asm) (by first | assumption | exact rfl) (by ktr_room) (by ktr_units) ?_
    rintro rE hE tkE nxE FE NE ⟨HE, DE, ohE, rfl, rfl, hvE, -, -⟩
    dsimp only
    have hvE' := hvE
    obtain ⟨_, _, _, _, _, _, _, _, _, _, _, _, _, _, _, _, _, _, _, _, rfl⟩ := hvE
    k_steps
    rename Fr _ _ _ _ => F8
    rename News _ _ _ _ => N8
    unfold Hold
    refine Ctr.use F8 N8 (row_ctr (.head _) (.tail _ (.head _)) hvE'.v) sub_refl (by k_asm) (by k_asm) (by k_asm) (by first | assumption | exact rfl) (by ktr_room) (by ktr_units) ?_
    rintro r13 h13 tk13 nx13 F13 N13 ⟨T4, f1, f2, f3, f4, f5, f6, f9, f0, rfl, rfl, lT4⟩
    dsimp only
    replace N13 := News.sub N13 (led' := (T4, tupO [.int 1 f1, .int 2 f2, .int 6 f3, .int 9 f4, .int 33 f5, .int 16 f6, .bool true, .bool false, .int 0 f9, .bytes #[(Int.toNat 7).toUInt8, (Int.toNat 7).toUInt8, (Int.toNat 4).toUInt8, (Int.toNat 0).toUInt8] f0]) :: (T3, tupO [.int 1 e1, .int 2 e2, .int 6 e3, .int 9 e4, .int 33 e5, .int 16 e6, .bool true, .bool false, .int 0 e9, .bytes #[(Int.toNat 7).toUInt8, (Int.toNat 7).toUInt8, (Int.toNat 4).toUInt8, (Int.toNat 0).toUInt8] e0]) :: (sl, listOf #[.int a4 t14, .int b4 t24] n4) :: rest) (cons_mem (.head _) (cons_mem (.tail _ (.tail _ (.tail _ (.tail _ (.head _))))) (cons_mem (.tail _ (.tail _ (.tail _ (.tail _ (.tail _ (.head _)))))) (fun p hp => (.tail _ (.tail _ (.tail _ (.tail _ (.tail _ (.tail _ hp))))))))))
    clear F8 N8 lT4
    refine rows_eq N13 (.tail _ (.head _)) (.head _) (by ktr_units) ?_
    k_steps
    rename Fr h₀ L _ m => F'
    rename News h₀ L _ _ => N'
    exact hret _ _ _ _ F' (News.sub N' (fun p hp => .tail _ (.tail _ hp))) ⟨rfl, _, _, _, _, _, ha4, hb4, hb5, rfl⟩
end
/-! part: DictT -/
section
section
variable {prog : Program} {w : World} {A : Around} {E : Value → Shared → Prop} {s : Shared}
/-- a plain dict, its entries as they lie -/
def RawAt (h : Heap) (d : Addr) (es : Array DictEntry) (ep : Nat) : Prop := ∃ o, h.get? d = some o ∧ o.ExactDict ∧ o.data = .dict es ep
theorem RawAt.typeIs {d : Addr} {es : Array DictEntry} {ep : Nat} (m : RawAt s.heap d es ep) : s.TypeIs (.ref d) "dict" := let ⟨o, ho, hc, _⟩ := m; ⟨o, ho, hc.1⟩
theorem RawAt.keep {h h' : Heap} {d : Addr} {es : Array DictEntry} {ep : Nat} (m : RawAt h d es ep) (k : ∀ o, h.get? d = some o → h'.get? d = some o) : RawAt h' d es ep := let ⟨o, ho, r⟩ := m; ⟨o, k o ho, r⟩
theorem raw_iter {d : Addr} {es : Array DictEntry} {ep : Nat} {Q : Value → Shared → Prop} (hd : (d == sysModules) = false) (m : RawAt s.heap d es ep)
    (hQ : Q (.ref s.heap.objs.size) { s with heap := s.heap.push { cls := .type "dict_keyiterator", data := .fields #[.ref d, .int 0 0, .int es.size 0, .int ep 0] } }) : wpAny (model prog w) A (pyIter (.ref d)) Q E s := by
  obtain ⟨o, ho, hc, hdat⟩ := id m
  refine wpAny_pyIter_slot m.typeIs PySem.F.slot_dict_iter (wpAny_call_entry PySem.F.slot_dict_iter m.typeIs PySem.F.entry_dict_iter ?_ (PySem.F.args_dict_iter_1 _))
  unfold Builtin.«dict.__iter__»
  refine wpAny_bind ?_
  unfold Builtin.Dict.dictSlotNone
  refine wpAny_bind (wpAny_notOrdered_dict m.typeIs ?_)
  refine wpAny_pure ?_
  show wpAny _ _ (Builtin.Dict.showsAll d >>= _) _ _ s
  unfold Builtin.Dict.showsAll
  rw [if_neg (by rw [hd]; exact Bool.false_ne_true)]
  refine wpAny_bind (wpAny_pure ?_)
  refine wpAny_bind (wpAny_dictEntries ho hdat ?_)
  refine wpAny_bind (wpAny_dictEpoch ho hdat ?_)
  refine wpAny_bind (wpAny_newObj_type (wpAny_pure ⟨_, rfl, "dict_keyiterator", _, ⟨_, Heap.get?_push_size _ rfl, rfl⟩, PySem.F.slot_dict_keyiterator_next.lookup, ?_⟩))
  simpa [rawInt] using hQ
theorem raw_next {it d : Addr} {i ep : Nat} {es : Array DictEntry} {e : DictEntry} {Q : Option Value → Shared → Prop} (hit : s.heap.IsKeyIter it d i es.size ep) (m : RawAt s.heap d es ep) (hx : es[i]? = some e)
    (hQ : ∀ h', h'.IsKeyIter it d (i + 1) es.size ep → Heap.SameBut it s.heap h' → Q (some e.key) { s with heap := h' }) : wpAny (model prog w) A (pyNext (.ref it)) Q E s := by
  obtain ⟨o, ho, hc, hd⟩ := id hit
  obtain ⟨od, hod, hcd, hdd⟩ := id m
  have hlt : i < es.size := (Array.getElem?_eq_some_iff.mp hx).1
  have hee : es[i] = e := (Array.getElem?_eq_some_iff.mp hx).2
  unfold pyNext
  refine wpAny_bind (wpAny_attempt (wpAny_callSpecial?_slot (name := Str.ofString "__next__") hit.typeIs PySem.F.slot_dict_keyiterator_next
    (wpAny_call_entry PySem.F.slot_dict_keyiterator_next hit.typeIs PySem.F.entry_dict_keyiterator_next ?_ (PySem.F.args_dict_keyiterator_next_1 _))))
  refine wpAny_bind (wpAny_pure (wpAny_bind (wpAny_bind ?_)))
  first | refine wpAny_bind (wpAny_typeNameOfWhole_keyiter hit.typeIs (wpAny_pure ?_)) | refine wpAny_bind (wpAny_typeNameOf_keyiter hit.typeIs (wpAny_pure ?_))
  refine wpAny_bind (wpAny_fieldsOf ho hd ?_)
  simp only [show Builtin.Dict_items.ownsTuple "dict_keyiterator" = false from by decide, Bool.false_eq_true, if_false]
  show wpAny _ _ (if (Value.ref d == Value.none) = true then _ else _) _ _ s
  rw [if_neg (show ¬ ((Value.ref d == Value.none) = true) from Bool.false_ne_true)]
  refine wpAny_bind (wpAny_pure (wpAny_bind (wpAny_dictEntries hod hdd ?_)))
  rw [if_neg (by simp)]
  refine wpAny_bind (wpAny_pure (wpAny_bind (wpAny_dictEpoch hod hdd ?_)))
  rw [if_neg (by simp)]
  refine wpAny_pure ?_
  simp only [show ¬ ((i : Int) < 0) from by omega, if_false, Int.toNat_natCast, Array.getElem?_eq_getElem hlt]
  refine wpAny_bind ?_
  first | refine wpAny_bind (wpAny_typeNameOfWhole_keyiter hit.typeIs (wpAny_pure ?_)) | refine wpAny_bind (wpAny_typeNameOf_keyiter hit.typeIs (wpAny_pure ?_))
  refine wpAny_bind (wpAny_isOneOf_keyiter hit.typeIs ?_)
  show wpAny _ _ (setField (.ref it) 1 (rawInt ((i : Int) + 1)) >>= _) _ _ s
  refine wpAny_bind (wpAny_setField ho hd (by simp) ?_)
  have hit' : (s.heap.update it (Obj.mapFields (·.setIfInBounds 1 (rawInt ((i : Int) + 1))))).IsKeyIter it d (i + 1) es.size ep :=
    ⟨_, Heap.get?_update_self _ ho (Obj.isFreed_of_fields (Obj.data_mapFields hd _)), (Obj.cls_mapFields ..).trans hc, by rw [Obj.data_mapFields hd]; simp [rawInt]⟩
  refine wpAny_bind (wpAny_holding ?_)
  refine wpAny_bind (wpAny_isOneOf_keyiter (s := { s with heap := s.heap.update it (Obj.mapFields (·.setIfInBounds 1 (rawInt ((i : Int) + 1)))) }) hit'.typeIs ?_)
  rw [hee]
  exact wpAny_pure (wpAny_pure ⟨_, rfl, wpAny_pure (hQ _ hit' (Heap.SameBut.update ..))⟩)
theorem raw_end {it d : Addr} {i ep : Nat} {es : Array DictEntry} {Q : Option Value → Shared → Prop} (hh : A.handled = none) (hit : s.heap.IsKeyIter it d i es.size ep) (m : RawAt s.heap d es ep) (hx : es.size ≤ i)
    (hQ : ∀ h', Heap.ExtBut it s.heap h' → Q none { s with heap := h' }) : wpAny (model prog w) A (pyNext (.ref it)) Q E s := by
  obtain ⟨o, ho, hc, hd⟩ := id hit
  obtain ⟨od, hod, hcd, hdd⟩ := id m
  unfold pyNext
  refine wpAny_bind (wpAny_attempt (wpAny_callSpecial?_slot (name := Str.ofString "__next__") hit.typeIs PySem.F.slot_dict_keyiterator_next
    (wpAny_call_entry PySem.F.slot_dict_keyiterator_next hit.typeIs PySem.F.entry_dict_keyiterator_next ?_ (PySem.F.args_dict_keyiterator_next_1 _))))
  refine wpAny_bind (wpAny_pure (wpAny_bind (wpAny_bind ?_)))
  first | refine wpAny_bind (wpAny_typeNameOfWhole_keyiter hit.typeIs (wpAny_pure ?_)) | refine wpAny_bind (wpAny_typeNameOf_keyiter hit.typeIs (wpAny_pure ?_))
  refine wpAny_bind (wpAny_fieldsOf ho hd ?_)
  simp only [show Builtin.Dict_items.ownsTuple "dict_keyiterator" = false from by decide, Bool.false_eq_true, if_false]
  show wpAny _ _ (if (Value.ref d == Value.none) = true then _ else _) _ _ s
  rw [if_neg (show ¬ ((Value.ref d == Value.none) = true) from Bool.false_ne_true)]
  refine wpAny_bind (wpAny_pure (wpAny_bind (wpAny_dictEntries hod hdd ?_)))
  rw [if_neg (by simp)]
  refine wpAny_bind (wpAny_pure (wpAny_bind (wpAny_dictEpoch hod hdd ?_)))
  rw [if_neg (by simp)]
  refine wpAny_pure ?_
  simp only [show ¬ ((i : Int) < 0) from by omega, if_false, Int.toNat_natCast, Array.getElem?_eq_none hx]
  refine wpAny_bind ?_
  first | refine wpAny_bind (wpAny_typeNameOfWhole_keyiter hit.typeIs (wpAny_pure ?_)) | refine wpAny_bind (wpAny_typeNameOf_keyiter hit.typeIs (wpAny_pure ?_))
  show wpAny _ _ (setField (.ref it) 0 .none >>= _) _ _ s
  refine wpAny_bind (wpAny_setField ho hd (by simp) ?_)
  show wpAny _ _ (newExc (.type "StopIteration") [] >>= _) _ _ _
  refine wpAny_bind ?_
  simp only [newExc, newTuple]
  refine wpAny_bind (wpAny_newObj_type ?_ (by size_fits))
  refine wpAny_bind (m := firstArgMember _ _) (wpAny_of_eq (a := Value.none) (by first | rfl | (simp only [firstArgMember]; rfl)) ?_)
  refine wpAny_newObj_type ?_ (by size_fits)
  simp only [raiseNew]
  refine wpAny_bind (wpAny_handled ?_)
  rw [show A.in1.handled = none from hh]
  refine wpAny_bind (wpAny_pure (wpAny_throw ?_))
  refine wpAny_bind (wpAny_isInstance (T := "StopIteration") (b := true) ⟨_, Heap.get?_push_size _ rfl, rfl⟩ isSubtype_stop ?_)
  exact wpAny_pure (hQ _ (((Heap.SameBut.update ..).extBut.push _).push _))
theorem raw_walks (hh : A.handled = none) (I d : Addr) (hne : d ≠ I) (es : Array DictEntry) (ep : Nat) :
    Walks prog w A I [I, d] [I] es.size (fun i v => ∃ e, es[i]? = some e ∧ v = e.key) (fun i h => h.IsKeyIter I d i es.size ep ∧ RawAt h d es ep) where
  sub := fun b hb => by simp at hb; simp [hb]
  frame := fun _ _ _ st hk => ⟨st.1.at fun o e => hk I (by simp) o e, st.2.keep fun o e => hk d (by simp) o e⟩
  item := fun i s Q E hi st hQ => by
    have hx : es[i]? = some es[i] := by simp [hi]
    refine raw_next st.1 st.2 hx fun h' hit' hs' => ?_
    exact hQ _ h' s.toks ⟨_, hx, rfl⟩ ⟨hit', st.2.keep fun o e => hs'.extBut d o hne e⟩ fun b o hb e => hs'.extBut b o (fun h => hb (by simp [h])) e
  done := fun s Q E st hQ => raw_end hh st.1 st.2 (Nat.le_refl _) fun h' he' => hQ h' s.toks fun b o hb e => he' b o (fun h => hb (by simp [h])) e
  self := fun _ _ _ _ st hQ => wpAny_pyIter_keyiter st.1 hQ
theorem RawAt.lt {h : Heap} {d : Addr} {es : Array DictEntry} {ep : Nat} (m : RawAt h d es ep) : d < h.objs.size := let ⟨_, ho, _⟩ := m; Heap.lt_size ho
theorem raw_src {d : Addr} {es : Array DictEntry} {ep : Nat} (lo : (d == sysModules) = false) : KdlSrc prog w "dict" d d es.size (fun i v => ∃ e, es[i]? = some e ∧ v = e.key) (fun h => RawAt h d es ep) where
  type := fun _ hm => hm.typeIs
  there := fun _ hm => ⟨hm.lt, hm.lt⟩
  keep := fun _ _ hm hk => hm.keep fun o e => hk d (.inl rfl) o e
  notList := by decide
  notTuple := by decide
  hint := fun _ _ _ _ hm hq => kdl_hint_dict hm.typeIs hq
  iter := fun _ _ hh hm => ⟨_, _, (fun _ _ hq => raw_iter lo hm hq), raw_walks hh _ d (Nat.ne_of_lt hm.lt) es ep, ⟨⟨_, Heap.get?_push_size _ rfl, rfl, rfl⟩, hm.keep fun o e => Heap.get?_push_of_some _ e⟩⟩
end
/-! dicts whose keys are tuples of ints -/
section
variable {prog : Program} {w : World} {A : Around} {E : Value → Shared → Prop} {s : Shared} {h₀ : Heap} {L d a : Addr} {m : PySem.Str → Option Value} {news : List (Addr × Obj)} {o : Obj} {xs : List (List Int × Addr × Value)} {k : List Int} {v : Value}
abbrev TK (prog : Program) (w : World) : HeapKind prog w (List Int) := tupleKind (PySem.intKind prog w)
def TD (prog : Program) (w : World) (o : Obj) (xs : List (List Int × Addr × Value)) : Prop := ∃ es ep, o.ExactDict ∧ o.data = .dict es ep ∧ es.toList = xs.map (entryOfKey (TK prog w)) ∧ (xs.map (·.1)).Nodup
/-- a key of the ledger's -/
def KeyIn (news : List (Addr × Obj)) (k : List Int) (a : Addr) : Prop := ∃ vs, (a, tupO vs) ∈ news ∧ IntsAre vs k
theorem items_of {vs : List Value} {ks : List Int} (h : IntsAre vs ks) : ItemsAre (PySem.intKind prog w) ks vs := by
  induction h with
  | nil => exact .nil
  | cons n t _ ih => exact .cons (intKind_is _ _ _ _) ih
theorem KeyIn.at (K : KeyIn news k a) (N : News h₀ L s.heap news) : (TK prog w).is s.heap k a := by
  obtain ⟨vs, hm, hi⟩ := K
  exact ⟨_, vs.toArray, _, (N _ hm).1, rfl, rfl, by simpa using items_of hi⟩
theorem KeyIn.mono {news' : List (Addr × Obj)} (K : KeyIn news k a) (hs : ∀ p ∈ news, p ∈ news') : KeyIn news' k a := let ⟨vs, hm, hi⟩ := K; ⟨vs, hs _ hm, hi⟩
theorem td_at (N : News h₀ L s.heap news) (hm : (d, o) ∈ news) (T : TD prog w o xs) (K : ∀ x ∈ xs, KeyIn news x.1 x.2.1) : s.heap.DictOfH (TK prog w) d xs := by
  obtain ⟨es, ep, a1, a2, a3, a4⟩ := T
  exact ⟨o, es, ep, (N _ hm).1, a1, a2, a3, fun x hx => (K x hx).at N, a4⟩
theorem td_nil {K' : Type} [DecidableEq K'] {knd' : PySem.KeyKind prog w K'} (hd : o.IsDictOf knd' []) : TD prog w o [] := by
  obtain ⟨es, ep, hc, hdat, _, hp, _⟩ := hd
  have he : es.toList = [] := List.length_eq_zero_iff.mp hp.length
  exact ⟨es, ep, hc, hdat, he, List.nodup_nil⟩
theorem td_raw {hp : Heap} (N : News h₀ L hp news) (hm : (d, o) ∈ news) (T : TD prog w o xs) : ∃ (es : Array DictEntry) (ep : Nat), RawAt hp d es ep ∧ es.size = xs.length ∧ (∀ (i : Nat) (e : DictEntry), es[i]? = some e → ∃ x, xs[i]? = some x ∧ e.key = .ref x.2.1) ∧ ∀ h' : Heap, h'.get? d = some o → RawAt h' d es ep := by
  obtain ⟨es, ep, a1, a2, a3, a4⟩ := T
  refine ⟨es, ep, ⟨o, (N _ hm).1, a1, a2⟩, size_of_entries a3, fun i e he => ?_, fun h' e => ⟨o, e, a1, a2⟩⟩
  rw [entry_at a3 i] at he
  obtain ⟨x, hx, rfl⟩ := Option.map_eq_some_iff.mp he
  exact ⟨x, hx, rfl⟩
theorem atKey_mem {a' : Addr} (hn : (xs.map (·.1)).Nodup) (h : (k, a', v) ∈ xs) : atKey xs k = some (a', v) := by
  obtain ⟨i, hi⟩ := List.mem_iff_getElem?.mp h
  exact atKey_of_get hn hi
theorem td_item {value slice : PySem.Expr} {a' : Addr} {Q : Value → Shared → Prop} (N : News h₀ L s.heap news) (hm : (d, o) ∈ news) (T : TD prog w o xs) (K : ∀ x ∈ xs, KeyIn news x.1 x.2.1) (ka : KeyIn news k a) (hx : (k, a', v) ∈ xs) (hu : A.units + 1 < cLine)
    (h : ∀ tk, Q v { s with toks := tk })
    (hs : subscripted slice false (.ref d) (.ref a) = operate [.ref d, .ref a] (getItem (.ref d) (.ref a)) := by with_unfolding_all rfl) :
    wpAny (model prog w) A (subscriptTail value slice (.ref d) (.ref a)) Q E s := by
  have hD := td_at N hm T K
  obtain ⟨es, ep, a1, a2, a3, a4⟩ := T
  exact tail_any hD.typeIs slot_dict_getitem.lookup (wpAny_getItem_heap (tupleKind_room_in1 hu) (ka.at N) hD (atKey_mem a4 hx) (h _)) hs
theorem td_set {g : Obj → List (Addr × Obj)} {Q : Unit → Shared → Prop} (F : Fr h₀ L s.heap m) (N : News h₀ L s.heap news) (U : UpdF d o news g) (T : TD prog w o xs) (K : ∀ x ∈ xs, KeyIn news x.1 x.2.1) (ka : KeyIn news k a) (hx : k ∉ xs.map (·.1)) (hu : A.units + 1 < cLine) (hz : xs.length < 1000)
    (h : ∀ h' o' tk, Fr h₀ L h' m → News h₀ L h' (g o') → TD prog w o' (xs ++ [(k, a, v)]) → Q () { s with heap := h', toks := tk }) :
    wpAny (model prog w) A (setItem (.ref d) (.ref a) v) Q E s := by
  obtain ⟨pre, post, rfl, hg, q1, q2⟩ := U.split
  have hm := N (d, o) (List.mem_append_right _ (.head _))
  have hD := td_at N (List.mem_append_right _ (.head _)) T K
  have hno : atKey xs k = none := atKey_none_of_get fun j p e => hx (List.mem_map.mpr ⟨_, List.mem_of_getElem? e, rfl⟩)
  refine wpAny_setItem_heap (hsz := by rw [sizeLine_eq]; omega) (tupleKind_room_in1 hu) (ka.at N) hD fun h' hm' hs => ?_
  rw [storedH_new hno] at hm'
  obtain ⟨o', es', ep', ho', hc', hd', he', _, hn'⟩ := hm'
  exact h h' o' _ (F.change hs hm.2.1 hm.2.2) (hg o' ▸ N.setIn q1 q2 hs ho') ⟨es', ep', hc', hd', he', hn'⟩
theorem td_pop {g : Obj → List (Addr × Obj)} {rest : List (List Int × Addr × Value)} {a' : Addr} {Q : Value → Shared → Prop} (F : Fr h₀ L s.heap m) (N : News h₀ L s.heap news) (U : UpdF d o news g) (T : TD prog w o ((k, a', v) :: rest)) (K : ∀ x ∈ (k, a', v) :: rest, KeyIn news x.1 x.2.1) (ka : KeyIn news k a) (hu : A.units + 1 < cLine) (hz : rest.length < 1000)
    (h : ∀ h' o' tk, Fr h₀ L h' m → News h₀ L h' (g o') → TD prog w o' rest → Q v { s with heap := h', toks := tk }) :
    wpAny (model prog w) A (call (.builtin "dict.pop") [.ref d, .ref a]) Q E s := by
  obtain ⟨pre, post, rfl, hg, q1, q2⟩ := U.split
  have hm := N (d, o) (List.mem_append_right _ (.head _))
  have hD := td_at N (List.mem_append_right _ (.head _)) T K
  obtain ⟨o1, es, ep, ho, hc, hd, he, his, hn⟩ := id hD
  have hsz := size_of_entries he
  have M : MeetsIn prog w (Builtin.«dict.pop» ⟨[.ref d, .ref a], []⟩) (fun A' R s' => A'.units + 1 < cLine ∧ s' = s ∧ ∀ h' o' tk, h'.get? d = some o' → Heap.SameBut d s.heap h' → TD prog w o' rest → R (.ok (.ret v)) { s with heap := h', toks := tk }) :=
    .of_wp fun A' R s' ⟨hu', e, hh⟩ => by
      subst e
      unfold Builtin.«dict.pop»
      refine wpAny_bind ?_
      unfold Builtin.Dict.keyAndDefault
      refine wpAny_bind (wpAny_notOrdered_dict hD.typeIs ?_)
      show wpAny _ _ (pure (d, Value.ref a, none)) _ _ _
      refine wpAny_pure ?_
      simp only [show (keyPart (.ref a)).isSome = false from rfl, Bool.false_eq_true, if_false]
      refine wpAny_bind (wpAny_dictEntries ho hd ?_)
      refine wpAny_bind (wpAny_pure ?_)
      rw [show es.isEmpty = false from by rw [Bool.eq_false_iff]; intro e; have := Array.isEmpty_iff_size_eq_zero.mp e; rw [hsz] at this; simp at this]
      simp only [Bool.false_eq_true, if_false]
      refine wpAny_bind ?_
      unfold Builtin.Dict.takeOut
      try with_reducible refine wpAny_holding ?_
      refine wpAny_bind ((TK prog w).pyHash (tupleKind_room_in1 hu') (ka.at N) ?_)
      refine wpAny_bind (wpAny_dictFind_heap (s := { s' with toks := s'.toks + (TK prog w).draws k }) (tupleKind_room_in1 hu') (ka.at N) ho hd he his hn (fun hno => absurd rfl (hno 0 (a', v))) fun j p hj => ?_)
      obtain rfl : j = 0 := idxH_unique hn hj (show ((k, a', v) :: rest)[0]? = some (k, (a', v)) from rfl)
      obtain rfl : p = (a', v) := by simpa using hj.symm
      refine wpAny_bind (wpAny_dictEntries (s := { s' with toks := s'.toks + (TK prog w).draws k }) ho hd ?_)
      rw [entry_at he 0]
      refine wpAny_bind (wpAny_updateDictKeys (hz := by rw [hsz, sizeLine_eq]; simp; omega) (s := { s' with toks := s'.toks + (TK prog w).draws k }) ho hd (wpAny_pure ?_))
      simp only [Option.isNone_some, Bool.false_eq_true, if_false]
      refine wpAny_bind (wpAny_letGo (wpAny_pure ⟨v, rfl, ?_⟩))
      refine hh _ _ _ (Heap.get?_update_self _ ho (Obj.isFreed_of_dict (Obj.data_mapDictKeys hd _))) (Heap.SameBut.update ..) ⟨_, ep + 1, hc.mapDictKeys _, Obj.data_mapDictKeys hd _, ?_, (List.nodup_cons.mp hn).2⟩
      obtain ⟨l⟩ := es
      simp only at he
      subst he
      simp
  exact call_meetsIn PySem.F.slot_dict_pop hD.typeIs PySem.F.entry_dict_pop (PySem.F.args_dict_pop_2 _ _) M ⟨hu, rfl, fun h' o' tk ho' hs hT => h h' o' tk (F.change hs hm.2.1 hm.2.2) (hg o' ▸ N.setIn q1 q2 hs ho') hT⟩
end
end
/-! part: DictC -/
section
open PyProof.Rows.LCg PyProof.Rows.LCt PyProof.Rows.LCp
section
variable {prog : Program} {w : World} {A : Around} {E : Value → Shared → Prop} {s : Shared} {h₀ : Heap} {L : Addr} {m : PySem.Str → Option Value} {env : Env}
def SrcRaw (prog : Program) (w : World) (A : Around) (h₀ : Heap) (L : Addr) (m : PySem.Str → Option Value) (env : Env) (elt : PySem.Expr) (x : PySem.Str) (scope : Scope) (cl : List (PySem.Str × Addr)) (Fin : Shared → List Value → List (Addr × Obj) → Prop) (xv : Value) (s₁ : Shared) : Prop :=
  ∃ (d : Addr) (od : Obj) (es : Array DictEntry) (ep : Nat) (news : List (Addr × Obj)), xv = .ref d ∧ A.handled = none ∧ Fr h₀ L s₁.heap m ∧ News h₀ L s₁.heap news ∧ (d, od) ∈ news ∧ (∀ h : Heap, h.get? d = some od → RawAt h d es ep) ∧ (d == sysModules) = false ∧ es.size ≤ sizeLine ∧
    ∀ s₂ : Shared, (∃ h, s₂ = { s₁ with heap := h }) → CompRest prog w A h₀ L m env elt x scope cl s₂ (fun nw => (d, od) ∈ nw) (fun i v => ∃ e, es[i]? = some e ∧ v = e.key) (Fin s₂) es.size 0 [] news
theorem ListComp_UR {elt iter : PySem.Expr} {x : PySem.Str} {px : Pos} {scope : Scope} {cl : List (PySem.Str × Addr)} {pos : Pos} {Q : Value → Shared → Prop} (F₀ : Fr h₀ L s.heap m)
    (hclos : closureFor scope env = pure cl) (hcell : ∀ y ∈ scope.names, y.2 ≠ .cell) (hkind : scope.kind = .function)
    (hnames : ∀ y ∈ scope.names, y.2 = .local → scope.names.lookup y.1 = some .local) (hx : scope.names.lookup x = some .local)
    (h : wpAny (model prog w) A (eval iter env) (SrcRaw prog w A h₀ L m env elt x scope cl (fun s₂ => FinE h₀ L m s₂ Q)) E s)
    (hs : ∀ x, foldedSetIterable iter env x = pure x := by intro _; rfl) :
    wpAny (model prog w) A (eval (.ListComp elt [⟨.Name x px, iter, [], 0⟩] scope pos) env) Q E s := by
  rw [eval_ListComp]
  refine wpAny_comprehension_free (use := none) rfl hs hclos hkind hnames (wpAny_mono h (fun xv s₁ h₁ => ?_) fun _ _ e => e)
  obtain ⟨d, od, es, ep, news, rfl, hh, F, N, hm, hd, hsys, hsz, R⟩ := h₁
  have hod := (N _ hm).1
  have hlt : d < s₁.heap.objs.size := Heap.lt_size hod
  refine raw_iter hsys (hd _ hod) ?_
  have up : ∀ b o, s₁.heap.get? b = some o → (s₁.heap.push { cls := .type "dict_keyiterator", data := .fields #[.ref d, .int 0 0, .int es.size 0, .int ep 0] }).get? b = some o := fun b o e => Heap.get?_push_of_some _ e
  refine block_U (raw_walks hh s₁.heap.objs.size d (Nat.ne_of_lt hlt) es ep) hsz (fun i h st => by obtain ⟨o, e, _⟩ := st.1; exact ⟨o, e⟩)
    (fun i h h' o nw st e e' _ N' S => ⟨by obtain ⟨o', q, r⟩ := st.1; rw [e] at q; cases q; exact ⟨o, e', r⟩, hd h' (N' _ S).1⟩) hcell hkind hx ⟨⟨_, Heap.get?_push_size _ rfl, rfl, rfl⟩, hd _ (up _ _ hod)⟩ (fun b hb => ?_)
    (F.keeps up) (N.grown up) (Nat.ne_of_lt F.ns.lt) (next_is_new F) (fun p hp => Nat.ne_of_lt (Heap.lt_size (N p hp).1)) hm (R _ ⟨_, rfl⟩) ?_
  · show b < (s₁.heap.push _).objs.size
    rw [Heap.size_push]
    rcases List.mem_cons.mp hb with rfl | hb
    · exact Nat.lt_succ_self _
    · rw [List.mem_singleton.mp hb]; exact Nat.lt_succ_of_lt hlt
  · intro D C h tk m' ys news' F' N' o1 hn hC₀ hD₀ hCL hDL hCD offC fin
    refine ⟨m', hn, fun h'' hs'' => fin D h'' tk (F'.change hs'' hCL hC₀) (fun p hp => ?_) o1⟩
    refine ⟨hs''.extBut _ _ ?_ (N' p hp).1, (N' p hp).2⟩
    rcases List.mem_cons.mp hp with rfl | hp
    · exact Ne.symm hCD
    · exact offC p hp
end
end
/-! part: Stored -/
section
local macro_rules | `(tactic| walk_at "none") => `(tactic| skip)
open PyProof.Rows.LCg PyProof.Rows.LCt PyProof.Rows.LCp
local macro_rules | `(tactic| walk_at "eval ListComp") => `(tactic| (k_here; refine hold ?_))
local macro_rules | `(tactic| walk_at "call builtin:sum") => `(tactic| (k_here; refine hold ?_))
local macro_rules | `(tactic| walk_at "subscriptTail Attribute Name Name ref ref") => `(tactic| (k_here; refine hold ?_))
local macro_rules | `(tactic| walk_at "subscriptTail") => `(tactic| (k_here; (with_reducible show wpAny _ _ (subscriptTail _ _ (Value.ref _) (Value.ref _)) _ _ _); refine hold ?_))
inductive ItemsIn (led : List (Addr × Obj)) : List (List Int × Addr × Value) → List Int → Prop
  | nil : ItemsIn led [] []
  | cons {k : List Int} {ka va dv y pl : Addr} {od : Obj} {endv fv : Value} {ahead n : Int} {xs : List (List Int × Addr × Value)} {ns : List Int} : KeyIn led k ka → (va, instObj 177 dv) ∈ led → (dv, od) ∈ led → IsDgram od y pl endv ahead fv n → ItemsIn led xs ns → ItemsIn led ((k, ka, .ref va) :: xs) (n :: ns)
section
variable {led led' : List (Addr × Obj)} {xs ys : List (List Int × Addr × Value)} {ns ms : List Int}
theorem ItemsIn.length (h : ItemsIn led xs ns) : xs.length = ns.length := by
  induction h with
  | nil => rfl
  | cons _ _ _ _ _ ih => simp [ih]
theorem ItemsIn.mono (h : ItemsIn led xs ns) (hs : ∀ p ∈ led, p ∈ led') : ItemsIn led' xs ns := by
  induction h with
  | nil => exact .nil
  | cons a b c d _ ih => exact .cons (a.mono hs) (hs _ b) (hs _ c) d ih
theorem ItemsIn.append (h : ItemsIn led xs ns) (h' : ItemsIn led ys ms) : ItemsIn led (xs ++ ys) (ns ++ ms) := by
  induction h with
  | nil => exact h'
  | cons a b c d _ ih => exact .cons a b c d ih
theorem ItemsIn.keys (h : ItemsIn led xs ns) : ∀ x ∈ xs, KeyIn led x.1 x.2.1 := by
  induction h with
  | nil => exact fun _ h => nomatch h
  | cons a _ _ _ _ ih =>
    intro x hx
    rcases List.mem_cons.mp hx with rfl | hx
    · exact a
    · exact ih x hx
inductive ItemAt (led : List (Addr × Obj)) (ns : List Int) (i : Nat) (x : List Int × Addr × Value) : Prop
  | mk (k : List Int) (ka va dv y pl : Addr) (od : Obj) (endv fv : Value) (ahead n : Int) (e : x = (k, ka, .ref va)) (h1 : ns[i]? = some n) (h2 : KeyIn led k ka) (h3 : (va, instObj 177 dv) ∈ led) (h4 : (dv, od) ∈ led) (h5 : IsDgram od y pl endv ahead fv n)
theorem ItemsIn.at (h : ItemsIn led xs ns) {i : Nat} {x : List Int × Addr × Value} (hx : xs[i]? = some x) : ItemAt led ns i x := by
  induction h generalizing i with
  | nil => simp at hx
  | @cons k ka va dv y pl od endv fv ahead n xs ns a b c d _ ih =>
    cases i with
    | zero => simp at hx; exact ⟨k, ka, va, dv, y, pl, od, endv, fv, ahead, n, hx.symm, rfl, a, b, c, d⟩
    | succ i => simp at hx; obtain ⟨k, ka, va, dv, y, pl, od, endv, fv, ahead, n, e, h1, h2, h3, h4, h5⟩ := ih hx; exact ⟨k, ka, va, dv, y, pl, od, endv, fv, ahead, n, e, by simpa using h1, h2, h3, h4, h5⟩
end
inductive IsReas (o : Obj) (wd : Addr) (b : Int) : Prop
  | mk (g1 g2 g3 g4 : Int) (k1 k2 k3 k4 t : Tok) (v1 v3 : Value)
  (h : o = dictOf [⟨g1, .str (Str.ofString "time_limit") k1, v1⟩, ⟨g2, .str (Str.ofString "most_octets") k2, .int b t⟩, ⟨g3, .str (Str.ofString "most") k3, v3⟩, ⟨g4, .str (Str.ofString "waiting") k4, .ref wd⟩] 4)
theorem stored_ctr {w : World} {mean : ExcName → Option Value} {mg mb : PySem.Str → Option Value} {jo dj wd : Addr} {oj ow : Obj} {led led' : List (Addr × Obj)} {b : Int} {xs : List (List Int × Addr × Value)} {ns : List Int}
   (hjo : (jo, instObj 260 dj) ∈ led) (hdj : (dj, oj) ∈ led) (hoj : IsReas oj wd b) (hwd : (wd, ow) ∈ led) (T : TD PySem.Challenge.rw_on0344_01.row.prog w ow xs) (hI : ItemsIn led' xs ns) (hs : ∀ p ∈ led', p ∈ led) (lo : (wd == sysModules) = false) (hz : xs.length < 1000) :
   Ctr w mean mg mb 229 [.ref jo] led 8 64 (fun r nx => nx = led ∧ ∃ t, r = .int ns.sum t) := by
  obtain ⟨g1, g2, g3, g4, k1, k2, k3, k4, t, v1, v3, rfl⟩ := hoj
  replace hI := hI.mono hs
  unfold Ctr
  k_fill
  intro dp un gd cn cs ca ccd cl outer A₀ base h₀ L m s Q E B F X N Tp hk hd hu hret
  (refine wpAny_call ?_; k_dflt (refine' code_defC ?k1 ?k2 ?k3 ?k4 ?k5 ?kA ?kF ?kK ?k6 ?k7 ?k8 ?k9 ?kB ?kD ?_ ?c2 ?c3 ?c4; (case kA => exact rfl); (case kF => exact rfl); (case kK => assumption); (case k1 => k_asm); (case k2 => k_asm); (case k3 => k_asm); (case k4 => k_asm); (case k5 => k_asm); (case k6 => k_is); (case k7 => k_is); (case k8 => ktr_room); (case k9 => exact BindsTo.of_eq rfl); (case kB => exact rfl); (case kD => decide +kernel); (case c2 => exact rfl); (case c3 => exact rfl); (case c4 => exact rfl); k_whole; intro g' L' h' tk' cells' FG F1 N1 Y1 B1 X1 T1 l1; (try k_lt l1); k_cells Y1; (try simp only [List.cons_append, List.nil_append] at N1); (try dsimp only); (try k_fold)))
  rename_i oE dE
  replace dE : oE.data = .cell (some (.ref jo)) := dE
  k_steps
  unfold Hold
  k_dflt (refine ListComp_UR (F₀ := by k_asm) (by with_unfolding_all rfl) (by decide) (by rfl) (by decide) (by rfl) ?_)
  k_steps
  obtain ⟨es, ep, hr, hsz, hent, hat⟩ := td_raw N1 (.tail _ hwd) T
  refine ⟨wd, ow, es, ep, _, rfl, by with_unfolding_all rfl, by k_asm, N1, .tail _ hwd, hat, lo, by rw [hsz, sizeLine_eq]; omega, ?_⟩
  rintro s₂ ⟨g, rfl⟩
  refine restU_ind (fun i ys news => news = (L' + 1, oE) :: led ∧ IntsAre ys (ns.take i)) ?turn ?done ⟨rfl, .nil⟩
  case turn =>
    rintro i ys news hi ⟨rfl, e1⟩ v I oI C oC D m₂ h tk E' ⟨e, he, rfl⟩ hC hx2 F2 N2 off ne
    obtain ⟨x, hx, hke⟩ := hent i e he
    obtain ⟨k, ka, va, dv, y, pl, od, endv, fv, ahead, n, rfl, hn, hK, hva, hdv, hod⟩ := hI.at hx
    rw [hke] at hx2
    dsimp only at hx2
    obtain ⟨p1, p2, p3, p4, p5, p6, p7, p8, j1, j2, j3, j4, j5, j6, j7, j8, bv, t2, t6, t8, rfl⟩ := hod
    k_steps
    unfold Hold
    refine td_item (k := k) N2 (.tail _ (.tail _ (.tail _ (.tail _ hwd)))) T (fun x hx => (hI.keys x hx).mono fun p hp => .tail _ (.tail _ (.tail _ (.tail _ hp)))) (hK.mono fun p hp => .tail _ (.tail _ (.tail _ (.tail _ hp)))) (List.mem_of_getElem? hx) (by ktr_units) ?_
    intro tk9
    k_steps
    refine CompEnd.intro F2 N2 _ sub_refl off (.tail _ hwd) ⟨rfl, ?_⟩
    rw [take_succ_of hn]
    exact e1.append (.cons _ _ .nil)
  case done =>
    rintro ys news ⟨rfl, e1⟩
    unfold FinE
    intro D3 h3 tk3 F3 N3 o3
    rw [hsz, hI.length, List.take_length] at e1
    dsimp only
    k_steps
    unfold Hold
    refine LSm.sum_ints F3 N3 (by with_unfolding_all rfl) (News.isList N3 (.head _)) e1 ?_
    intro h4 tk4 t4 F4 N4
    k_steps
    rename Fr h₀ L _ m => F'
    rename News h₀ L _ _ => N'
    exact hret _ _ _ _ F' (fun p hp => N' p (by repeat (first | exact hp | refine List.Mem.tail _ ?_))) ⟨rfl, _, rfl⟩
end
/-! part: Room -/
section
open PyProof.Rows.LCg PyProof.Rows.LCt PyProof.Rows.LCp
local macro_rules | `(tactic| walk_at "exec While") => `(tactic| (k_here; refine hold ?_))
local macro_rules | `(tactic| walk_at "exec While Compare cons nil") => `(tactic| (k_here; refine hold ?_))
local macro_rules | `(tactic| walk_at "call type:list") => `(tactic| (k_here; refine hold ?_))
local macro_rules | `(tactic| walk_at "call builtin:dict.pop") => `(tactic| (k_here; refine hold ?_))
local macro_rules | `(tactic| walk_at "getMethod ref") => `(tactic| (k_here; (with_reducible show wpAny _ _ (getMethod _ (Str.ofString "pop") _) _ _ _); refine hold ?_))
local macro_rules | `(tactic| walk_at "subscriptTail") => `(tactic| (k_here; (with_reducible show wpAny _ _ (subscriptTail _ _ (Value.ref _) (Value.int _ _)) _ _ _); refine hold ?_))
theorem ItemsIn.drop {led : List (Addr × Obj)} {xs : List (List Int × Addr × Value)} {ns : List Int} (h : ItemsIn led xs ns) : ∀ k : Nat, ItemsIn led (xs.drop k) (ns.drop k) := by
  induction h with
  | nil => intro k; simp; exact .nil
  | cons a b c d h ih =>
    intro k
    cases k with
    | zero => exact .cons a b c d h
    | succ k => exact ih k
inductive RoomPost (w : World) (wd : Addr) (rest : List (Addr × Obj)) (xs : List (List Int × Addr × Value)) (ns : List Int) (b : Int) (r : Value) (nx : List (Addr × Obj)) : Prop
  | mk (e : r = .none) (ow' : Obj) (k : Nat) (e2 : nx = (wd, ow') :: rest) (h1 : TD PySem.Challenge.rw_on0344_01.row.prog w ow' (xs.drop k)) (h2 : k ≤ xs.length) (h3 : (ns.drop k).sum ≤ b) (h4 : ∀ j, j < k → b < (ns.drop j).sum)
theorem room_ctr {w : World} {mean : ExcName → Option Value} {mg mb : PySem.Str → Option Value} {jo dj wd : Addr} {oj ow : Obj} {rest : List (Addr × Obj)} {b : Int} {xs : List (List Int × Addr × Value)} {ns : List Int}
   (hjo : (jo, instObj 260 dj) ∈ rest) (hdj : (dj, oj) ∈ rest) (hoj : IsReas oj wd b) (T : TD PySem.Challenge.rw_on0344_01.row.prog w ow xs) (hI : ItemsIn rest xs ns) (lo : (wd == sysModules) = false) (hz : xs.length < 1000) (hr : ∀ p ∈ rest, p.1 ≠ wd) (hb : 0 ≤ b) :
   Ctr w mean mg mb 243 [.ref jo] ((wd, ow) :: rest) 12 100 (RoomPost w wd rest xs ns b) := by
  have hoj' := hoj
  obtain ⟨g1, g2, g3, g4, k1, k2, k3, k4, t, v1, v3, rfl⟩ := hoj
  unfold Ctr
  k_fill
  intro dp un gd cn cs ca ccd cl outer A₀ base h₀ L m s Q E B F X N Tp hk hd hu hret
  refine wpAny_call ?_
  k_dflt ktr_enter
  rename Fr _ _ _ _ => lF
  replace lF : Fr _ _ _ (fun y => List.lookup y [(Str.ofString "self", Value.ref jo)]) := lF
  k_steps
  unfold Hold
  refine While_inv (n₀ := xs.length) (fun n m' nx => m' = (fun y => List.lookup y [(Str.ofString "self", Value.ref jo)]) ∧ Ex2 fun ow' k => An5 (nx = (wd, ow') :: rest) (TD PySem.Challenge.rw_on0344_01.row.prog w ow' (xs.drop k)) (n = xs.length - k) (k ≤ xs.length) (∀ j, j < k → b < (ns.drop j).sum)) (by k_asm) (by k_asm) ⟨rfl, ow, 0, rfl, T, rfl, Nat.zero_le _, fun j hj => absurd hj (Nat.not_lt_zero _)⟩ ?_
  rintro n m₁ nx h₁ tk₁ F1 N1 ⟨rfl, ow', k, rfl, T', rfl, hk', hall⟩
  clear lF N
  k_steps
  unfold Hold
  have hIk := hI.drop k
  have hlen := hI.length
  refine Ctr.use F1 N1 (stored_ctr (led' := rest) (.tail _ hjo) (.tail _ hdj) hoj' (.head _) T' hIk (fun p hp => .tail _ hp) lo (by rw [List.length_drop]; omega)) sub_refl (by k_asm) (by k_asm) (by k_asm) (by first | assumption | exact rfl) (by ktr_room) (by ktr_units) ?_
  rintro r2 h2 tk2 nx2 F2 N2 ⟨rfl, t2, rfl⟩
  dsimp only
  clear F1 N1
  by_cases hs : b < (ns.drop k).sum
  · have hne : ns.drop k ≠ [] := fun e => by rw [e] at hs; simp at hs; omega
    have hlt : k < xs.length := by
      refine Nat.not_le.mp fun h => hne ?_
      rw [List.drop_eq_nil_of_le]; omega
    k_steps
    unfold Hold
    obtain ⟨ky, ka, va, dv, y, pl, od, endv, fv, ahead, nn, hx, hn, hK, hva, hdv, hod⟩ := hI.at (i := k) (x := xs[k]) (by simp [hlt])
    have hcons : xs.drop k = (ky, ka, .ref va) :: xs.drop (k + 1) := by rw [List.drop_eq_getElem_cons hlt, hx]
    rw [hcons] at T'
    have hkeys : ∀ led : List (Addr × Obj), (∀ p ∈ rest, p ∈ led) → ∀ x ∈ (ky, ka, Value.ref va) :: xs.drop (k + 1), KeyIn led x.1 x.2.1 := fun led hs x hx => (hI.keys x (List.mem_of_mem_drop (hcons ▸ hx))).mono hs
    refine getMethod_builtin (Heap.DictOfH.typeIs (td_at N2 (.head _) T' (hkeys _ fun p hp => .tail _ hp))) PySem.F.plainAttrs_dict PySem.F.slot_dict_pop PySem.F.type_dict_pop (dictOfH_noDict (td_at N2 (.head _) T' (hkeys _ fun p hp => .tail _ hp))) ?_
    k_steps
    unfold Hold
    obtain ⟨es, ep, hraw, hsz, hent, hat⟩ := td_raw N2 (.head _) T'
    refine kdl_N (raw_src lo) (by with_unfolding_all rfl) F2 N2 (hat _ (N2 _ (.head _)).1) (by rw [hsz, sizeLine_eq]; simp; omega) ?_
    intro D c h3 tk3 vs F3 N3 l3 hvl hvs
    have hv0 : vs[0]? = some (.ref ka) := by
      have h0 : 0 < vs.length := by rw [hvl, hsz]; simp
      have e0 : vs[0]? = some vs[0] := by simp [h0]
      obtain ⟨e, he, hv⟩ := hvs 0 _ e0
      obtain ⟨x, hx0, hke⟩ := hent 0 e he
      simp only [List.getElem?_cons_zero, Option.some.injEq] at hx0
      rw [e0, hv, hke, ← hx0]
    k_steps
    unfold Hold
    refine tail_any (Heap.IsList.typeIs (News.isList N3 (.head _))) slot_list_getitem.lookup (wpAny_getItem_list (News.isList N3 (.head _)) (by decide) (by decide) (by simpa using hv0) ?_) (by with_unfolding_all rfl)
    k_steps
    unfold Hold
    refine td_pop F3 N3 (.tail (Nat.ne_of_gt (l3 (wd, _) (.head _))) (.head hr)) T' (hkeys _ fun p hp => .tail _ (.tail _ hp)) (hK.mono fun p hp => .tail _ (.tail _ hp)) (by ktr_units) (by rw [List.length_drop]; omega) ?_
    intro h4 ow2 tk4 F4 N4 T4
    k_steps
    refine WhileStep.intro (n' := xs.length - (k + 1)) F4 (News.sub N4 (fun p hp => .tail _ hp)) (by omega) ⟨rfl, ow2, k + 1, rfl, T4, rfl, hlt, fun j hj => ?_⟩
    by_cases hjk : j < k
    · exact hall j hjk
    · obtain rfl : j = k := by omega
      exact hs
  · k_steps
    rename Fr h₀ L _ m => F'
    rename News h₀ L _ _ => N'
    exact hret _ _ _ _ F' N' ⟨rfl, ow', k, rfl, T', hk', by omega, hall⟩
end
/-! part: RoomR -/
section
open PyProof.Rows.LCg PyProof.Rows.LCt PyProof.Rows.LCp SeqAt
local macro_rules | `(tactic| walk_at "getMethod ref") => `(tactic| (k_here; (with_reducible show wpAny _ _ (getMethod (Value.ref _) (Str.ofString "put") _) _ _ _); refine hold ?_))
local macro_rules | `(tactic| walk_at "pyIter ref") => `(tactic| (k_here; refine hold ?_))
local macro_rules | `(tactic| walk_at "setItem ref ref") => `(tactic| (k_here; refine hold ?_))
local macro_rules | `(tactic| walk_at "call type:bytes") => `(tactic| (k_here; refine hold ?_))
local macro_rules | `(tactic| walk_at "binaryOp Mult int int") => `(tactic| (k_here; with_unfolding_all refine mul_int ?_ (IntMulOk.of_left (intBits_le_64 (by decide) (by decide)))))
local macro_rules | `(tactic| walk_at "subscriptTail") => `(tactic| (k_here; (with_reducible show wpAny _ _ (subscriptTail _ _ (Value.ref _) (Value.int (-1) _)) _ _ _); refine hold ?_))
local macro_rules | `(tactic| walk_at "subscriptTail Name UnaryOp ref int") => `(tactic| (k_here; refine hold ?_))
local macro_rules | `(tactic| walk_at "eval ListComp") => `(tactic| (k_here; refine hold ?_))
local macro_rules | `(tactic| walk_at "exec Assign cons ListComp") => `(tactic| (k_here; refine hold ?_))
local macro_rules | `(tactic| walk_at "exec For Name Call cons nil") => `(tactic| (k_here; (with_unfolding_all refine my_For ?_ ?hs); (case hs => (intro _; with_unfolding_all rfl))))
local macro_rules | `(tactic| walk_at "storeName") => `(tactic| (k_here; (with_reducible show wpAny _ _ (storeName _ (Str.ofString "sizes") _) _ _ _); refine hold ?_))
local macro_rules | `(tactic| walk_at "CompSrcT") => `(tactic| (k_here; refine hold ?_))
local macro_rules | `(tactic| walk_at "call builtin:len") => `(tactic| (k_here; (with_reducible show wpAny _ _ (call (Value.builtin "len") [Value.ref _]) _ _ _); refine hold ?_))
local macro_rules | `(tactic| walk_at "call builtin:sum") => `(tactic| (k_here; refine hold ?_))
local macro_rules | `(tactic| walk_at "subscriptTail Name Slice ref ref") => `(tactic| (k_here; refine hold ?_))
local macro_rules | `(tactic| walk_at "compareOp Eq ref ref") => `(tactic| (k_here; refine hold ?_))
local macro_rules | `(tactic| walk_at "subscriptTail Name Name ref int") => `(tactic| (k_here; refine hold ?_))
local macro_rules | `(tactic| walk_at "subscriptTail Name Constant ref int") => `(tactic| (k_here; refine hold ?_))
def keptF (ns : List Int) (bd : Int) (i : Nat) : List Int := ((List.range i).filter (fun j => decide ((ns.drop j).sum ≤ bd))).map (fun j => ((j : Nat) : Int))
theorem keptF_yes {ns : List Int} {bd : Int} {i : Nat} (h : (ns.drop i).sum ≤ bd) : keptF ns bd (i + 1) = keptF ns bd i ++ [(i : Int)] := by
  unfold keptF; rw [List.range_succ, List.filter_append, List.map_append, List.filter_cons_of_pos (by simpa using h)]; rfl
theorem keptF_no {ns : List Int} {bd : Int} {i : Nat} (h : ¬ (ns.drop i).sum ≤ bd) : keptF ns bd (i + 1) = keptF ns bd i := by
  unfold keptF; rw [List.range_succ, List.filter_append, List.map_append, List.filter_cons_of_neg (by simpa using h)]; simp
theorem drop_sum_le {l : List Int} (h : ∀ n ∈ l, 0 ≤ n) : ∀ j : Nat, (l.drop j).sum ≤ l.sum := by
  induction l with
  | nil => intro j; simp
  | cons a l ih =>
    intro j
    cases j with
    | zero => exact Int.le_refl _
    | succ j =>
      have h1 := ih (fun n hn => h n (.tail _ hn)) j
      have h2 := h a (.head _)
      simp only [List.drop_succ_cons, List.sum_cons]; omega
theorem kept_is {ns : List Int} {bd : Int} {k : Nat} (nn : ∀ n ∈ ns, 0 ≤ n) (h1 : (ns.drop k).sum ≤ bd) (h2 : ∀ j, j < k → bd < (ns.drop j).sum) : ∀ m, keptF ns bd m = (List.range (m - k)).map (fun q => ((k + q : Nat) : Int)) := by
  intro m
  induction m with
  | zero => rw [Nat.zero_sub]; rfl
  | succ m ih =>
    by_cases hm : m < k
    · rw [keptF_no (Int.not_le.mpr (h2 m hm)), ih, show m - k = 0 by omega, show m + 1 - k = 0 by omega]
    · have h3 : (ns.drop m).sum ≤ (ns.drop k).sum := by
        have := drop_sum_le (l := ns.drop k) (fun n hn => nn n (List.mem_of_mem_drop hn)) (m - k)
        rwa [List.drop_drop, show k + (m - k) = m by omega] at this
      rw [keptF_yes (Int.le_trans h3 h1), ih, show m + 1 - k = (m - k) + 1 by omega, List.range_succ, List.map_append]
      rw [List.map_cons, List.map_nil, show k + (m - k) = m by omega]
theorem drop_map {ns : List Int} (k : Nat) : (List.range (ns.length - k)).map (fun q => ns.getD (k + q) 0) = ns.drop k := by
  refine List.ext_getElem (by simp) fun i h1 h2 => ?_
  simp only [List.length_map, List.length_range] at h1
  simp [List.getElem_drop, show k + i < ns.length by omega]
theorem eq_ints {prog : Program} {w : World} {A : Around} {E : Value → Shared → Prop} {s : Shared} {Q : Value → Shared → Prop} {l b : Addr} {vs ws : List Value} {ns : List Int} (hl : s.heap.IsList l vs.toArray) (hb : s.heap.IsList b ws.toArray) (hi : IntsAre vs ns) (hj : IntsAre ws ns) (hu : A.units < cLine) (q : Q (.bool true) s) :
    wpAny (model prog w) A (compareOp .Eq (.ref l) (.ref b)) Q E s := by
  have hlen : vs.length = ws.length := by rw [hi.length, hj.length]
  refine SeqAt.eq_listAt (e := fun _ => true) hl hb (by simpa using hlen) hu (fun j h1 h2 => ?_) ?_
  · have h1' : j < vs.length := by simpa using h1
    have h2' : j < ws.length := by simpa using h2
    obtain ⟨n, t, e1, e2⟩ := hi.at j vs[j] (by simp [h1'])
    obtain ⟨n', t', e1', e2'⟩ := hj.at j ws[j] (by simp [h2'])
    rw [e2] at e2'
    cases e2'
    have : EqAt A.in1 s (.int n t) (.int n t') (n == n) := EqAt.int_int n t n t'
    rw [show (n == n) = true from by simp] at this
    simpa [e1, e1'] using this
  · rw [show (List.range vs.toArray.size).all (fun _ => true) = true from by simp]; exact q
theorem room_abv {a c1 c2 wd szl jo dj sl : Addr} (h : @LT.lt Nat _ szl a) (k6 : @LT.lt Nat _ sl szl) (w0 : @LT.lt Nat _ wd szl) (w4 : @LT.lt Nat _ c1 szl) (w3 : @LT.lt Nat _ c2 szl) (w1 : @LT.lt Nat _ jo szl) (w2 : @LT.lt Nat _ dj szl) : @Ne Nat a sl ∧ @Ne Nat a wd ∧ @Ne Nat a szl ∧ @Ne Nat a c1 ∧ @Ne Nat a c2 ∧ @Ne Nat a jo ∧ @Ne Nat a dj :=
  ⟨Nat.ne_of_gt (Nat.lt_trans k6 h), Nat.ne_of_gt (Nat.lt_trans w0 h), Nat.ne_of_gt h, Nat.ne_of_gt (Nat.lt_trans w4 h), Nat.ne_of_gt (Nat.lt_trans w3 h), Nat.ne_of_gt (Nat.lt_trans w1 h), Nat.ne_of_gt (Nat.lt_trans w2 h)⟩
theorem room_blw {a L wd szl jo dj sl : Addr} (h : @LT.lt Nat _ a (L + 1)) (hs : @Ne Nat a sl) (e1 : @LT.lt Nat _ (L + 1 + 1) dj) (e2 : @LT.lt Nat _ dj jo) (e3 : @LT.lt Nat _ jo wd) (e4 : @LT.lt Nat _ wd szl) :
    @Ne Nat a sl ∧ @Ne Nat a wd ∧ @Ne Nat a szl ∧ @Ne Nat a (L + 1) ∧ @Ne Nat a (L + 1 + 1) ∧ @Ne Nat a jo ∧ @Ne Nat a dj :=
  have h1 := Nat.lt_succ_of_lt h
  have h2 := Nat.lt_trans h1 e1
  have h3 := Nat.lt_trans h2 e2
  have h4 := Nat.lt_trans h3 e3
  ⟨hs, Nat.ne_of_lt h4, Nat.ne_of_lt (Nat.lt_trans h4 e4), Nat.ne_of_lt h, Nat.ne_of_lt h1, Nat.ne_of_lt h3, Nat.ne_of_lt h2⟩
theorem room_i {i : Nat} {c : Int} (h : i < c.toNat) (h' : c < 6) : i < 1000 := by omega
theorem room_c {c : Int} (h : c < 6) : c.toNat < 1000 := by omega
theorem room_63 {n : Nat} (h : n < 1000) : (n : Int) < 2 ^ 63 := by omega
theorem room_sz {c : Int} (h : 0 ≤ c) (h' : c < 5) : 0 ≤ 8 * c ∧ 8 * c ≤ 32 := by omega
theorem room_rep {z : Int} (h : 0 ≤ z) : ((List.replicate z.toNat (0 : Int)).length : Int) = z := by rw [List.length_replicate]; omega
theorem room_repN {z : Int} (h : z ≤ 32) : (List.replicate z.toNat (0 : Int)).length < 1000 := by rw [List.length_replicate]; omega
theorem room_ag {z : Int} (h : z ≤ 32) : againstF [(0, 64)] none 0 (0 + z) true = false := by
  unfold againstF; rw [if_neg (by omega)]; rfl
theorem room_sum {z : Int} (h : 0 ≤ z) (h' : z ≤ 32) : (0 : Int) + sumLen (([(0, 64)] : List (Int × Int)).flatMap (foundOf 0 (0 + z))) = z := by
  have m1 := mx_spec 0 0
  have m2 := mn_spec 64 (0 + z)
  simp only [List.flatMap_cons, List.flatMap_nil, List.append_nil, foundOf]
  split
  · simp only [sumLen, List.map_nil, List.sum_nil]; omega
  · simp only [sumLen, List.map_cons, List.map_nil, List.sum_cons, List.sum_nil]; omega
theorem room_bd {bd : Int} (h : bd ∈ [(0 : Int), 16, 40, 64]) : 0 ≤ bd ∧ bd ≤ 64 := by simp only [List.mem_cons, List.not_mem_nil, or_false] at h; omega
theorem room_key {xs : List (List Int × Addr × Value)} {i : Nat} (e : xs.map (·.1) = (List.range i).map (fun j => [10, 20, 17, ((j : Nat) : Int)])) : [10, 20, 17, (i : Int)] ∉ xs.map (·.1) := by
  rw [e]
  intro hm
  obtain ⟨j, hj, e⟩ := List.mem_map.mp hm
  have := List.mem_range.mp hj
  simp only [List.cons.injEq, and_true, true_and] at e
  omega
structure LR (w : World) (sl wd szl c1 c2 jo dj : Addr) (rest : List (Addr × Obj)) (i : Nat) (tl : List (Addr × Obj)) (a b : Int) (ow : Obj) (xs : List (List Int × Addr × Value)) (ns : List Int) (vs : List Value) : Prop where
  a0 : 0 ≤ a
  b0 : 0 ≤ b
  b1 : b < 2147483647
  td : TD PySem.Challenge.rw_on0344_01.row.prog w ow xs
  items : ItemsIn tl xs ns
  keys : xs.map (·.1) = (List.range i).map (fun j => [10, 20, 17, ((j : Nat) : Int)])
  isI : IntsAre vs ns
  nn : ∀ n ∈ ns, 0 ≤ n ∧ n ≤ 32
  len : ns.length = i
  keep : ∀ p ∈ rest, p ∈ tl
  off : ∀ p ∈ tl, @Ne Nat p.1 sl ∧ @Ne Nat p.1 wd ∧ @Ne Nat p.1 szl ∧ @Ne Nat p.1 c1 ∧ @Ne Nat p.1 c2 ∧ @Ne Nat p.1 jo ∧ @Ne Nat p.1 dj
set_option maxHeartbeats 40000000 in
theorem roomr_ctr {w : World} {mean : ExcName → Option Value} {mg mb : PySem.Str → Option Value} {sl : Addr} {a b : Int} {t1 t2 : Tok} {n : Nat} {rest : List (Addr × Obj)}
   (h1 : 0 ≤ a) (h2 : 0 ≤ b) (h3 : b < 2147483647) (hr : ∀ p ∈ rest, p.1 ≠ sl) :
   Ctr w mean mg mb 328 [.ref sl] ((sl, listOf #[.int a t1, .int b t2] n) :: rest) 16 128
     (SrcPost sl rest) := by
  unfold Ctr
  k_fill
  intro dp un gd cn cs ca ccd cl outer A₀ base h₀ L m s Q E B F X N T hk hd hu hret
  (refine wpAny_call ?_; k_dflt (refine' code_defC ?k1 ?k2 ?k3 ?k4 ?k5 ?kA ?kF ?kK ?k6 ?k7 ?k8 ?k9 ?kB ?kD ?_ ?c2 ?c3 ?c4; (case kA => exact rfl); (case kF => exact rfl); (case kK => assumption); (case k1 => k_asm); (case k2 => k_asm); (case k3 => k_asm); (case k4 => k_asm); (case k5 => k_asm); (case k6 => k_is); (case k7 => k_is); (case k8 => ktr_room); (case k9 => exact BindsTo.of_eq rfl); (case kB => exact rfl); (case kD => decide +kernel); (case c2 => exact rfl); (case c3 => exact rfl); (case c4 => exact rfl); k_whole; intro g' L' h' tk' cells' FG F1 N1 Y1 B1 X1 T1 l1; (try k_lt l1); k_cells Y1; (try simp only [List.cons_append, List.nil_append] at N1); (try dsimp only); (try k_fold)))
  rename_i oA oB dA dB
  replace dA : oA.data = .cell none := dA
  replace dB : oB.data = .cell none := dB
  replace F1 : Fr _ _ _ (fun y => if y = Str.ofString "source" then some (Value.ref sl) else none) := F1
  have hL : @LT.lt Nat _ sl (L' + 1) := Nat.lt_succ_of_lt l1.1
  have hLr : ∀ p ∈ rest, @LT.lt Nat _ p.1 (L' + 1) := fun p hp => Nat.lt_succ_of_lt (allLt_mem l1.2 p hp)
  k_steps
  rename_i D hq F3 N3 lD
  unfold Hold
  refine Ctr.use F3 N3 (one_ctr (rest := (D, _) :: (L' + 1 + 1, oA) :: (L' + 1, oB) :: rest) (ns := [0, 16, 40, 64]) h1 h2 h3 (cons_ne (Nat.ne_of_gt lD.2.2.1) (cons_ne (Nat.ne_of_gt (Nat.lt_succ_of_lt hL)) (cons_ne (Nat.ne_of_gt hL) hr))) (.head _) (.cons _ _ (.cons _ _ (.cons _ _ (.cons _ _ .nil)))) (by decide) (by decide))
    (cons_mem (.tail _ (.tail _ (.tail _ (.head _)))) (cons_mem (.head _) (cons_mem (.tail _ (.head _)) (cons_mem (.tail _ (.tail _ (.head _))) (fun _ h9 => .tail _ (.tail _ (.tail _ (.tail _ h9)))))))) (by k_asm) (by k_asm) (by k_asm) (by first | assumption | exact rfl) (by ktr_room) (by ktr_units) ?_
  rintro r4 h4 tk4 nx4 F4 N4 ⟨bd, tbd, a4, b4, t14, t24, n4, rfl, hbd, ha4, hb4, hb5, rfl⟩
  have hbd0 : 0 ≤ bd ∧ bd ≤ 64 := room_bd hbd
  replace N4 := News.sub N4 (led' := (sl, _) :: (L' + 1 + 1, oA) :: (L' + 1, oB) :: rest) (cons_mem (.head _) (fun _ h9 => .tail _ (.tail _ h9)))
  clear F3 N3 lD
  dsimp only
  k_steps
  rename_i h11 oB2 dB2 tk0 jo dj h10 l3 l2 gz Lz h9 Bz Xz Tz h8 h7 h6 wd h5z ow lo hs0 fs0 hi0 fi0 l1b h4z Fz Nz Tcz kXz szl h3z l1c D2 h2z l1d h1z h0z F5 N5
  obtain ⟨oj, hoj, N6⟩ : ∃ oj, IsReas oj wd bd ∧ News g' L' h0z ((D2, tupO [.ref jo, .ref szl]) :: (szl, listOf #[] 0) :: (wd, ow) :: (jo, instObj 260 dj) :: (dj, oj) :: (sl, listOf #[.int a4 t14, .int b4 t24] n4) :: (L' + 1 + 1, oA) :: (L' + 1, oB2) :: rest) := ⟨_, ⟨_, _, _, _, _, _, _, _, _, _, _, rfl⟩, N5⟩
  have hoj' := hoj
  obtain ⟨q1, q2, q3, q4, e1, e2, e3, e4, tq, vq1, vq3, hoje⟩ := hoj
  have ch : @LT.lt Nat _ sl (L' + 1) ∧ @LT.lt Nat _ (L' + 1 + 1) dj ∧ @LT.lt Nat _ dj jo ∧ @LT.lt Nat _ jo wd ∧ @LT.lt Nat _ wd szl ∧ @LT.lt Nat _ szl D2 := ⟨hL, l3.2.1, l2, l1b.1, l1c.1, l1d.1⟩
  clear N5 Nz Fz l3 l2 l1b l1c l1d hs0 fs0 fi0
  have k1 : @LT.lt Nat _ sl (L' + 1) := ch.1
  have k2 : @LT.lt Nat _ sl (L' + 1 + 1) := Nat.lt_succ_of_lt k1
  have k3 : @LT.lt Nat _ sl dj := Nat.lt_trans k2 ch.2.1
  have k4 : @LT.lt Nat _ sl jo := Nat.lt_trans k3 ch.2.2.1
  have k5 : @LT.lt Nat _ sl wd := Nat.lt_trans k4 ch.2.2.2.1
  have w0 : @LT.lt Nat _ wd szl := ch.2.2.2.2.1
  have k6 : @LT.lt Nat _ sl szl := Nat.lt_trans k5 w0
  have v1 : @LT.lt Nat _ jo wd := ch.2.2.2.1
  have v2 : @LT.lt Nat _ dj wd := Nat.lt_trans ch.2.2.1 v1
  have v3 : @LT.lt Nat _ (L' + 1 + 1) wd := Nat.lt_trans ch.2.1 v2
  have v4 : @LT.lt Nat _ (L' + 1) wd := Nat.lt_of_succ_lt v3
  have w1 : @LT.lt Nat _ jo szl := Nat.lt_trans v1 w0
  have w2 : @LT.lt Nat _ dj szl := Nat.lt_trans v2 w0
  have w3 : @LT.lt Nat _ (L' + 1 + 1) szl := Nat.lt_trans v3 w0
  have w4 : @LT.lt Nat _ (L' + 1) szl := Nat.lt_trans v4 w0
  unfold Hold
  refine storeX_C F5 N6 (c := L' + 1 + 1) rfl (.tail (Nat.ne_of_gt (Nat.lt_trans w3 ch.2.2.2.2.2)) (.tail (Nat.ne_of_gt w3) (.tail (Nat.ne_of_gt v3) (.tail (Nat.ne_of_gt (Nat.lt_trans ch.2.1 ch.2.2.1)) (.tail (Nat.ne_of_gt ch.2.1) (.tail (Nat.ne_of_lt k2) (.head (fun p hp => by rcases List.mem_cons.mp hp with rfl | hp; exact Nat.ne_of_lt (Nat.lt_succ_self _); exact Nat.ne_of_lt (Nat.lt_succ_of_lt (hLr p hp)))))))))) dA ?_
  intro h6z oA2 F7 N7 dA2
  replace N7 := News.sub N7 (led' := (sl, _) :: (wd, ow) :: (szl, listOf (List.toArray []) 0) :: (L' + 1 + 1, oA2) :: (L' + 1, oB2) :: (jo, _) :: (dj, oj) :: rest) (cons_mem (by k_mem) (cons_mem (by k_mem) (cons_mem (by k_mem) (cons_mem (by k_mem) (cons_mem (by k_mem) (cons_mem (by k_mem) (cons_mem (by k_mem) (fun _ h9 => (by repeat (first | exact h9 | refine List.Mem.tail _ ?_))))))))))
  have S0 : LR w sl wd szl (L' + 1) (L' + 1 + 1) jo dj rest 0 rest a4 b4 ow [] [] [] := ⟨ha4, hb4, hb5, td_nil hi0, .nil, rfl, .nil, (fun _ h => by cases h), rfl, (fun _ h => h), fun p hp => room_blw (hLr p hp) (hr p hp) ch.2.1 ch.2.2.1 v1 w0⟩
  clear F5 N6 hi0
  k_steps
  unfold Hold
  refine Ctr.use F7 N7 (take_ctr (rest := (wd, _) :: (szl, _) :: (L' + 1 + 1, _) :: (L' + 1, _) :: (jo, _) :: (dj, _) :: rest) ha4 hb4 hb5 (by decide) (by decide) (cons_ne (Nat.ne_of_gt k5) (cons_ne (Nat.ne_of_gt k6) (cons_ne (Nat.ne_of_gt k2) (cons_ne (Nat.ne_of_gt k1) (cons_ne (Nat.ne_of_gt k4) (cons_ne (Nat.ne_of_gt k3) fun p hp => (S0.off p hp).1))))))) sub_refl (by k_asm) (by k_asm) (by k_asm) (by first | assumption | exact rfl) (by ktr_room) (by ktr_units) ?_
  rintro r8 h8 tk8 nx8 F8 N8 ⟨cc, tc, a', b', t1', t2', n', rfl, hc0, hc1, ha, hb, hb2, rfl⟩
  dsimp only
  clear F7 N7
  k_steps
  unfold Hold
  rename_i hR tkR tR uR vR IR FR NR keepR
  clear keepR
  refine loop_range (n := cc.toNat) (fun i m' nx => (∀ z, [Str.ofString "number", Str.ofString "waiting"].contains z = false → m' z = (fun y => if y = Str.ofString "joined" then some (Value.ref jo) else if y = Str.ofString "source" then some (Value.ref sl) else none) z) ∧ Ex11 fun tl a b t1 t2 n ow xs ns vs c => nx = (sl, listOf #[.int a t1, .int b t2] n) :: (wd, ow) :: (szl, listOf (List.toArray vs) c) :: (L' + 1 + 1, oA2) :: (L' + 1, oB2) :: (jo, instObj 260 dj) :: (dj, oj) :: tl ∧ LR w sl wd szl (L' + 1) (L' + 1 + 1) jo dj rest i tl a b ow xs ns vs)
    rfl (by passes_own) FR NR IR (small_one (by omega) (by omega) (by omega) (by omega)) (by rw [rangeSize_nat, Int.sub_zero]) ⟨fun _ _ => rfl, _, _, _, _, _, _, _, _, _, _, _, rfl, { S0 with a0 := ha, b0 := hb, b1 := hb2 }⟩ ?turn ?done
  case turn =>
    rintro i t m₁ nx h tk I oI R9 K9 hi ⟨hm, tl, a, b, t1, t2, n, ow, xs, ns, vs, c, rfl, S⟩ hI F2 N2
    clear FR NR IR S0
    replace F2 := Fr.only [Str.ofString "number", Str.ofString "waiting"] F2 hm
    clear hm
    have hvl : vs.length < 1000 := by rw [S.isI.length, S.len]; exact room_i hi hc1
    have zI1 : @Ne Nat I sl := fun e => hI (sl, _) (.head _) e.symm
    have zI2 : @Ne Nat I wd := fun e => hI (wd, _) (.tail _ (.head _)) e.symm
    have zI3 : @Ne Nat I szl := fun e => hI (szl, _) (.tail _ (.tail _ (.head _))) e.symm
    have iI : ∀ p ∈ tl, p.1 ≠ I := fun p hp => hI p (.tail _ (.tail _ (.tail _ (.tail _ (.tail _ (.tail _ (.tail _ hp)))))))
    k_steps
    unfold Hold
    rename Fr _ _ _ _ => F0
    rename News _ _ _ _ => N0
    refine Ctr.use F0 N0 newd_ctr sub_refl (by k_asm) (by k_asm) (by k_asm) (by first | assumption | exact rfl) (by ktr_room) (by ktr_units) ?_
    rintro r3 h3 tk3 nx3 F1 N1 ⟨x, dx, y, dy, pl, rl, Dt, od, oy, u1, u2, rfl, rfl, hod, hoy, n1, n2, n3, n4, n5, n6, n0⟩
    have b1 : @LT.lt Nat _ I dx := n0 (I, oI) (.head _)
    have b2 : @LT.lt Nat _ sl dx := n0 (sl, _) (.tail _ (.head _))
    have b3 : @LT.lt Nat _ szl dx := n0 (szl, _) (.tail _ (.tail _ (.tail _ (.head _))))
    have b4 : @LT.lt Nat _ wd dx := n0 (wd, _) (.tail _ (.tail _ (.head _)))
    obtain ⟨R, hR⟩ : ∃ R, R = (I, oI) :: (wd, ow) :: (L' + 1, oB2) :: (jo, instObj 260 dj) :: (dj, oj) :: tl := ⟨_, rfl⟩
    have hRl : ∀ p ∈ R, @LT.lt Nat _ p.1 dx := by rw [hR]; exact fun p hp => n0 p ((cons_mem (.head _) (cons_mem (.tail _ (.tail _ (.head _))) (cons_mem (.tail _ (.tail _ (.tail _ (.tail _ (.tail _ (.head _)))))) (cons_mem (.tail _ (.tail _ (.tail _ (.tail _ (.tail _ (.tail _ (.head _))))))) (cons_mem (.tail _ (.tail _ (.tail _ (.tail _ (.tail _ (.tail _ (.tail _ (.head _)))))))) (fun _ h9 => (.tail _ (.tail _ (.tail _ (.tail _ (.tail _ (.tail _ (.tail _ (.tail _ h9)))))))))))))) p hp)
    have b6 : @LT.lt Nat _ (L' + 1 + 1) dx := n0 (L' + 1 + 1, _) (.tail _ (.tail _ (.tail _ (.tail _ (.head _)))))
    have hRs : ∀ p ∈ R, p.1 ≠ sl := by rw [hR]; exact cons_ne zI1 (cons_ne (Nat.ne_of_gt k5) (cons_ne (Nat.ne_of_gt k1) (cons_ne (Nat.ne_of_gt k4) (cons_ne (Nat.ne_of_gt k3) fun p hp => (S.off p hp).1))))
    have hRz : ∀ p ∈ R, p.1 ≠ szl := by rw [hR]; exact cons_ne zI3 (cons_ne (Nat.ne_of_lt w0) (cons_ne (Nat.ne_of_lt w4) (cons_ne (Nat.ne_of_lt w1) (cons_ne (Nat.ne_of_lt w2) fun p hp => (S.off p hp).2.2.1))))
    have hslz : @Ne Nat sl szl := Nat.ne_of_lt k6
    obtain ⟨G, hG⟩ : ∃ G, G = (x, instObj 177 dx) :: (dx, od) :: (y, instObj 123 dy) :: (dy, oy) :: (pl, listOf #[] 0) :: (rl, listOf #[.ref Dt] 0) :: (Dt, tupO [.int 0 u1, .int 64 u2]) :: R := ⟨_, rfl⟩
    have hGs : ∀ p ∈ G, p.1 ≠ sl := by rw [hG]; exact new_off n1 n2 n3 n4 n5 n6 b2 hRs
    have hGz : ∀ p ∈ G, p.1 ≠ szl := by rw [hG]; exact new_off n1 n2 n3 n4 n5 n6 b3 hRz
    have hGx : (x, instObj 177 dx) ∈ G := by rw [hG]; exact .head _
    have hGd : (dx, od) ∈ G := by rw [hG]; exact .tail _ (.head _)
    have hGp : (pl, listOf #[] 0) ∈ G := by rw [hG]; exact (.tail _ (.tail _ (.tail _ (.tail _ (.head _)))))
    replace N1 := News.sub N1 (led' := (sl, listOf #[.int a t1, .int b t2] n) :: (szl, listOf vs.toArray c) :: (L' + 1 + 1, oA2) :: G) (by rw [hG, hR]; exact (cons_mem (.tail _ (.tail _ (.tail _ (.tail _ (.tail _ (.tail _ (.tail _ (.tail _ (.head _))))))))) (cons_mem (.tail _ (.tail _ (.tail _ (.tail _ (.tail _ (.tail _ (.tail _ (.tail _ (.tail _ (.tail _ (.head _))))))))))) (cons_mem (.tail _ (.tail _ (.tail _ (.tail _ (.tail _ (.tail _ (.tail _ (.tail _ (.tail _ (.tail _ (.tail _ (.head _)))))))))))) (cons_mem (.head _) (cons_mem (.tail _ (.head _)) (cons_mem (.tail _ (.tail _ (.head _))) (cons_mem (.tail _ (.tail _ (.tail _ (.head _)))) (cons_mem (.tail _ (.tail _ (.tail _ (.tail _ (.head _))))) (cons_mem (.tail _ (.tail _ (.tail _ (.tail _ (.tail _ (.head _)))))) (cons_mem (.tail _ (.tail _ (.tail _ (.tail _ (.tail _ (.tail _ (.head _))))))) (cons_mem (.tail _ (.tail _ (.tail _ (.tail _ (.tail _ (.tail _ (.tail _ (.head _)))))))) (cons_mem (.tail _ (.tail _ (.tail _ (.tail _ (.tail _ (.tail _ (.tail _ (.tail _ (.tail _ (.head _)))))))))) (cons_mem (.tail _ (.tail _ (.tail _ (.tail _ (.tail _ (.tail _ (.tail _ (.tail _ (.tail _ (.tail _ (.tail _ (.tail _ (.head _))))))))))))) (cons_mem (.tail _ (.tail _ (.tail _ (.tail _ (.tail _ (.tail _ (.tail _ (.tail _ (.tail _ (.tail _ (.tail _ (.tail _ (.tail _ (.head _)))))))))))))) (cons_mem (.tail _ (.tail _ (.tail _ (.tail _ (.tail _ (.tail _ (.tail _ (.tail _ (.tail _ (.tail _ (.tail _ (.tail _ (.tail _ (.tail _ (.head _))))))))))))))) (fun _ h9 => (.tail _ (.tail _ (.tail _ (.tail _ (.tail _ (.tail _ (.tail _ (.tail _ (.tail _ (.tail _ (.tail _ (.tail _ (.tail _ (.tail _ (.tail _ h9))))))))))))))))))))))))))))))))
    clear F0 N0 n0
    dsimp only
    k_steps
    unfold Hold
    rename Fr _ _ _ _ => F3
    rename News _ _ _ _ => N3
    refine Ctr.use F3 N3 (take_ctr (rest := (szl, _) :: (L' + 1 + 1, _) :: G) S.a0 S.b0 S.b1 (by decide) (by decide) (cons_ne (Ne.symm hslz) (cons_ne (Nat.ne_of_gt k2) hGs))) sub_refl (by k_asm) (by k_asm) (by k_asm) (by first | assumption | exact rfl) (by ktr_room) (by ktr_units) ?_
    rintro r5 h5 tk5 nx5 F5 N5 ⟨c5, tc5, a5, b5, t15, t25, n9, rfl, hc5, hc5', ha5, hb5', hb6, rfl⟩
    dsimp only
    clear F3 N3
    k_steps
    unfold Hold
    rename Fr _ _ _ _ => F6
    rename News _ _ _ _ => N6
    obtain ⟨sz, hsz⟩ : ∃ z, z = 8 * c5 := ⟨_, rfl⟩
    rw [← hsz] at N6
    simp only [List.push_toArray] at N6
    have hs0 : 0 ≤ sz ∧ sz ≤ 32 := by rw [hsz]; exact room_sz hc5 hc5'
    clear hsz hc5 hc5'
    refine put_method F6 (by k_asm) N6 (.tail _ (.tail _ (.tail _ hGx))) (.tail _ (.tail _ (.tail _ hGd))) hod ?_
    k_steps
    unfold Hold
    refine Ctr.use F6 N6 (head_ctr (more := true) (off := 0)) sub_refl (by k_asm) (by k_asm) (by k_asm) (by first | assumption | exact rfl) (by ktr_room) (by ktr_units) ?_
    rintro r7 h7' tk7' nx7 F7 N7 ⟨H, Dh, oh, rfl, rfl, hoh, hHD, hab⟩
    dsimp only
    clear F6 N6
    have q1 := hab (pl, _) (.tail _ (.tail _ (.tail _ hGp)))
    have q2 := hab (sl, _) (.head _)
    have q3 := hab (szl, _) (.tail _ (.head _))
    clear hab
    k_steps
    unfold Hold
    with_unfolding_all refine item_last (iv := vs) (News.isList N7 (.tail _ (.tail _ (.tail _ (.head _))))) ?_ (by with_unfolding_all rfl)
    k_steps
    unfold Hold
    refine call_bytes_count hs0.1 (Int.le_trans hs0.2 (by decide)) ?_
    intro tb kb
    k_steps
    unfold Hold
    rename Fr _ _ _ _ => F8
    rename News _ _ _ _ => N8
    have hlen : ((List.replicate sz.toNat (0 : Int)).length : Int) = sz := room_rep hs0.1
    have hag : againstF [(0, 64)] none 0 (0 + ((List.replicate sz.toNat (0 : Int)).length : Int)) true = false := by
      rw [hlen]; exact room_ag hs0.2
    have hsum : (0 : Int) + sumLen (([(0, 64)] : List (Int × Int)).flatMap (foundOf 0 (0 + ((List.replicate sz.toNat (0 : Int)).length : Int)))) = sz := by
      rw [hlen]; exact room_sum hs0.1 hs0.2
    have hdg : DgIs ⟨[(0, 64)], [], none, none, 0, 0⟩ od oy y pl [] ((rl, listOf #[.ref Dt] 0) :: (Dt, tupO [.int 0 u1, .int 64 u2]) :: []) := ⟨.none, .none, rl, [.ref Dt], 0, hod, rfl, rfl, hoy, .head _, .cons (.tail _ (.head _)) .nil, .nil⟩
    subst hG
    refine Ctr.use F8 N8 (put_out (rest := (H, instObj 74 Dh) :: (Dh, oh) :: (rl, _) :: (Dt, _) :: (sl, _) :: (szl, _) :: (L' + 1 + 1, _) :: R) (hdg.mono (cons_mem (.tail _ (.tail _ (.head _))) (cons_mem (.tail _ (.tail _ (.tail _ (.head _)))) (fun _ h9 => by cases h9)))) (by decide) (by decide) (.head _) (.tail _ (.head _)) hoh (ints_zero sz.toNat) (room_repN hs0.2)
      n1 n2 n3 (Nat.lt_trans (Nat.lt_trans n4 n5) n6) (cons_out (.inr (.inl q1.1)) (cons_out (.inr (.inl q1.2)) (cons_out (.inr (.inr ⟨Nat.lt_trans n4 n5, n6⟩)) (cons_out (.inr (.inr ⟨n4, Nat.lt_trans n5 n6⟩)) (cons_out (.inl b2) (cons_out (.inl b3) (cons_out (.inl b6) fun p hp => .inl (hRl p hp)))))))))
      (cons_mem (.tail _ (.tail _ (.tail _ (.tail _ (.tail _ (.head _)))))) (cons_mem (.tail _ (.tail _ (.tail _ (.tail _ (.tail _ (.tail _ (.head _))))))) (cons_mem (.tail _ (.tail _ (.tail _ (.tail _ (.tail _ (.tail _ (.tail _ (.head _)))))))) (cons_mem (.tail _ (.tail _ (.tail _ (.tail _ (.tail _ (.tail _ (.tail _ (.tail _ (.head _))))))))) (cons_mem (.tail _ (.tail _ (.tail _ (.tail _ (.tail _ (.tail _ (.tail _ (.tail _ (.tail _ (.head _)))))))))) (cons_mem (.head _) (cons_mem (.tail _ (.head _)) (cons_mem (.tail _ (.tail _ (.tail _ (.tail _ (.tail _ (.tail _ (.tail _ (.tail _ (.tail _ (.tail _ (.head _))))))))))) (cons_mem (.tail _ (.tail _ (.tail _ (.tail _ (.tail _ (.tail _ (.tail _ (.tail _ (.tail _ (.tail _ (.tail _ (.head _)))))))))))) (cons_mem (.tail _ (.tail _ (.head _))) (cons_mem (.tail _ (.tail _ (.tail _ (.head _)))) (cons_mem (.tail _ (.tail _ (.tail _ (.tail _ (.head _))))) (fun _ h9 => (.tail _ (.tail _ (.tail _ (.tail _ (.tail _ (.tail _ (.tail _ (.tail _ (.tail _ (.tail _ (.tail _ (.tail _ h9))))))))))))))))))))))))) (by k_asm) (by k_asm) (by k_asm) (by first | assumption | exact rfl) (by ktr_room) (by ktr_units) ?_
    rintro r13 h13 tk13 nx13 F13 N13 (⟨hpa', -⟩ | ⟨-, d', od', oy', pvs', np', nw, hd', rfl, rfl, hdn, hab2⟩)
    · rw [hag] at hpa'; cases hpa'
    dsimp only
    subst hR
    replace N13 := News.sub N13 (cons_mem (.tail _ (.tail _ (.tail _ (.tail _ (.tail _ (List.mem_append_right _ (.tail _ (.tail _ (.tail _ (.tail _ (.head _))))))))))) (cons_mem (.tail _ (.tail _ (.tail _ (.tail _ (.tail _ (List.mem_append_right _ (.tail _ (.tail _ (.tail _ (.tail _ (.tail _ (.tail _ (.tail _ (.head _)))))))))))))) (cons_mem (.tail _ (.tail _ (.tail _ (.tail _ (.tail _ (List.mem_append_right _ (.tail _ (.tail _ (.tail _ (.tail _ (.tail _ (.tail _ (.tail _ (.tail _ (.head _))))))))))))))) (cons_mem (.tail _ (.tail _ (.tail _ (.tail _ (.tail _ (List.mem_append_right _ (.tail _ (.tail _ (.tail _ (.tail _ (.tail _ (.head _)))))))))))) (cons_mem (.tail _ (.tail _ (.tail _ (.tail _ (.tail _ (List.mem_append_right _ (.tail _ (.tail _ (.tail _ (.tail _ (.tail _ (.tail _ (.head _))))))))))))) (cons_mem (.tail _ (.tail _ (.tail _ (.tail _ (.tail _ (List.mem_append_right _ (.tail _ (.tail _ (.tail _ (.tail _ (.tail _ (.tail _ (.tail _ (.tail _ (.tail _ (.head _)))))))))))))))) (cons_mem (.tail _ (.tail _ (.tail _ (.tail _ (.tail _ (List.mem_append_right _ (.tail _ (.tail _ (.tail _ (.tail _ (.tail _ (.tail _ (.tail _ (.tail _ (.tail _ (.tail _ (.head _))))))))))))))))) (cons_mem (.tail _ (.tail _ (.tail _ (.tail _ (.tail _ (List.mem_append_right _ (.tail _ (.tail _ (.tail _ (.tail _ (.tail _ (.tail _ (.tail _ (.tail _ (.tail _ (.tail _ (.tail _ (.head _)))))))))))))))))) (cons_mem (.head _) (cons_mem (.tail _ (.head _)) (fun _ h9 => (.tail _ (.tail _ (.tail _ (.tail _ (.tail _ (List.mem_append_right _ (.tail _ (.tail _ (.tail _ (.tail _ (.tail _ (.tail _ (.tail _ (.tail _ (.tail _ (.tail _ (.tail _ (.tail _ h9)))))))))))))))))))))))))))))
    obtain ⟨endv, fv, -, -, -, -, hodn, -⟩ := hdn
    have hszd : d'.size = sz := by rw [hd']; exact hsum
    rw [hszd] at hodn
    clear hd' hszd hsum hag hab2 hdg
    rw [hoje] at N13
    k_steps
    rename_i hT1 T hT2 F9 N9 lT
    have oT := room_abv lT.2.2.2.1 k6 w0 w4 w3 w1 w2
    have odx := room_abv b3 k6 w0 w4 w3 w1 w2
    have ox := room_abv (Nat.lt_trans b3 n1) k6 w0 w4 w3 w1 w2
    unfold Hold
    refine td_set (k := [10, 20, 17, (i : Int)]) (xs := xs) F9 N9 (.tail oT.2.1 (.tail (Nat.ne_of_lt k5) (.tail zI2 (.head (cons_ne (Nat.ne_of_gt w0) (cons_ne (Nat.ne_of_lt v3) (cons_ne (Nat.ne_of_lt v4) (cons_ne (Nat.ne_of_lt v1) (cons_ne (Nat.ne_of_lt v2) (cons_ne ox.2.1 (cons_ne odx.2.1 (fun p hp => (S.off p hp).2.1)))))))))))) S.td (fun x' hx' => (S.items.keys x' hx').mono fun p hp => (.tail _ (.tail _ (.tail _ (.tail _ (.tail _ (.tail _ (.tail _ (.tail _ (.tail _ (.tail _ (.tail _ hp)))))))))))) ⟨_, .head _, .cons _ _ (.cons _ _ (.cons _ _ (.cons _ _ .nil)))⟩ ?hk (by ktr_units) (by rw [S.items.length, S.len]; exact room_i hi hc1) ?_
    case hk => exact room_key S.keys
    intro h20 ow2 tk20 F10 N10 T10
    clear N9 F9
    dsimp only
    rw [← hoje] at N10
    k_steps
    rename Fr _ _ _ _ => F11
    rename News _ _ _ _ => N11
    refine K9.next F11 N11 (cons_mem (.tail _ (.tail _ (.head _))) (cons_mem (.tail _ (.head _)) (cons_mem (.tail _ (.tail _ (.tail _ (.head _)))) (cons_mem (.tail _ (.tail _ (.tail _ (.tail _ (.head _))))) (cons_mem (.tail _ (.tail _ (.tail _ (.tail _ (.tail _ (.head _)))))) (cons_mem (.tail _ (.tail _ (.tail _ (.tail _ (.tail _ (.tail _ (.head _))))))) (cons_mem (.tail _ (.tail _ (.tail _ (.tail _ (.tail _ (.tail _ (.tail _ (.head _)))))))) (cons_mem (.tail _ (.tail _ (.tail _ (.tail _ (.tail _ (.tail _ (.tail _ (.tail _ (.head _))))))))) (cons_mem (.head _) (cons_mem (.tail _ (.tail _ (.tail _ (.tail _ (.tail _ (.tail _ (.tail _ (.tail _ (.tail _ (.head _)))))))))) (cons_mem (.tail _ (.tail _ (.tail _ (.tail _ (.tail _ (.tail _ (.tail _ (.tail _ (.tail _ (.tail _ (.head _))))))))))) (fun _ h9 => (.tail _ (.tail _ (.tail _ (.tail _ (.tail _ (.tail _ (.tail _ (.tail _ (.tail _ (.tail _ (.tail _ h9))))))))))))))))))))))) (cons_ne (fun e => zI1 e.symm) (cons_ne (fun e => zI2 e.symm) (cons_ne (fun e => zI3 e.symm) (cons_ne (hI (L' + 1 + 1, _) (.tail _ (.tail _ (.tail _ (.head _))))) (cons_ne (hI (L' + 1, _) (.tail _ (.tail _ (.tail _ (.tail _ (.head _)))))) (cons_ne (hI (jo, _) (.tail _ (.tail _ (.tail _ (.tail _ (.tail _ (.head _))))))) (cons_ne (hI (dj, _) (.tail _ (.tail _ (.tail _ (.tail _ (.tail _ (.tail _ (.head _)))))))) (cons_ne (Nat.ne_of_gt lT.2.1) (cons_ne (Nat.ne_of_gt (Nat.lt_trans b1 n1)) (cons_ne (Nat.ne_of_gt b1) (fun p hp => iI p hp))))))))))) ⟨?_, (T, tupO [.int 10 _, .int 20 _, .int 17 _, .int i t]) :: (x, instObj 177 dx) :: (dx, od') :: tl, a5, b5, t15, t25, n9, ow2, xs ++ [([10, 20, 17, (i : Int)], T, .ref x)], ns ++ [sz], vs ++ [.int sz tk5], c + 1, rfl, ?_⟩
    · intro z hz; repeat (first | refine if_off hz rfl ?_ | refine if_offL hz ?_ | exact rfl)
    · refine ⟨ha5, hb5', hb6, T10, ?_, ?_, S.isI.append (.cons _ _ .nil), ?_, ?_, fun p hp => .tail _ (.tail _ (.tail _ (S.keep p hp))), ?_⟩
      · exact (S.items.mono fun p hp => .tail _ (.tail _ (.tail _ hp))).append (.cons ⟨_, .head _, .cons _ _ (.cons _ _ (.cons _ _ (.cons _ _ .nil)))⟩ (.tail _ (.head _)) (.tail _ (.tail _ (.head _))) hodn .nil)
      · rw [List.map_append, S.keys, List.range_succ, List.map_append]; rfl
      · intro n hn
        rcases List.mem_append.mp hn with hn | hn
        · exact S.nn n hn
        · obtain rfl := List.mem_singleton.mp hn; exact hs0
      · rw [List.length_append, S.len]; rfl
      · intro p hp
        rcases List.mem_cons.mp hp with rfl | hp
        · exact oT
        rcases List.mem_cons.mp hp with rfl | hp
        · exact ox
        rcases List.mem_cons.mp hp with rfl | hp
        · exact odx
        · exact S.off p hp
  case done =>
    rintro m₁ nx h tk ⟨hm, tl, a, b, t1, t2, n, ow, xs, ns, vs, c, rfl, S⟩ F2 N2
    clear FR NR IR S0
    replace F2 := Fr.only [Str.ofString "number", Str.ofString "waiting"] F2 hm
    clear hm
    subst hoje
    have hnl : ns.length < 1000 := by rw [S.len]; exact room_c hc1
    k_steps
    unfold Hold
    k_dflt (refine LCt.Assign_ListComp_T (F₀ := by k_asm) (by rfl) (by with_unfolding_all rfl) (by with_unfolding_all rfl) (by decide) (by rfl) (by decide) (by rfl) (by rfl) (by rfl) ?_)
    k_steps
    unfold Hold
    refine len_list (News.isList N2 (.tail _ (.tail _ (.head _)))) (by rw [List.size_toArray, S.isI.length]; exact room_63 hnl) ?_
    rw [List.size_toArray, S.isI.length]
    k_steps
    unfold Hold
    refine LCt.CompSrcT.range (n := ns.length) (by rfl) (by k_asm) (by k_asm) (by assumption) (small_one (by omega) (by omega) (by omega) (by omega)) (by rw [rangeSize_nat]; omega) (by rw [sizeLine_eq]; omega) ?_
    intro g9
    refine restT_ind (fun i ys news => news = _ ∧ IntsAre ys (keptF ns bd i)) ?turn1 ?done1 ⟨rfl, .nil⟩
    case turn1 =>
      rintro i ys news hi ⟨rfl, e1⟩ v I oI C oC D m₂ h tk E' ⟨t, rfl⟩ hC hx2 F3 N3 off ne
      rw [Int.zero_add] at hx2
      k_steps
      unfold Hold
      refine kmk_slice_ints (by k_asm) (by k_asm) (News.isList (by k_asm) (.tail _ (.tail _ (.tail _ (.tail _ (.tail _ (.head _))))))) (IsPart.int _ _) IsPart.none S.isI (kmk_from S.isI (by omega)) rfl ?_ (by with_unfolding_all rfl) (by kmk_pure) (by rw [List.size_toArray, S.isI.length, sizeLine_eq]; omega)
      intro D6 ws6 h6 F6 N6 l6 e6 _ _
      k_steps
      unfold Hold
      refine LSm.sum_ints F6 N6 (by with_unfolding_all rfl) (News.isList N6 (.head _)) e6 ?_
      intro h7 tk7 t7 F7 N7
      k_steps
      · rename_i hh
        rename Fr _ _ _ _ => F8
        rename News _ _ _ _ => N8
        refine CompEnd.intro F8 N8 _ (fun p hp => .tail _ hp) off trivial ⟨rfl, ?_⟩
        rw [keptF_yes (by simpa using hh)]
        exact e1.append (.cons _ _ .nil)
      · rename_i hh
        rename Fr _ _ _ _ => F8
        rename News _ _ _ _ => N8
        refine CompEnd.intro F8 N8 _ (fun p hp => .tail _ hp) off trivial ⟨rfl, ?_⟩
        rw [keptF_no (by simpa using hh)]
        exact e1
    case done1 =>
      rintro ys news ⟨rfl, e1⟩
      unfold FinA
      intro D3 h3 tk3 F3 N3 o3
      dsimp only
      k_steps
      rename Fr _ _ _ _ => F4
      rename News _ _ _ _ => N4
      unfold Hold
      refine Ctr.use F4 N4 (room_ctr (ow := ow) (rest := (D3, _) :: (sl, _) :: (szl, _) :: (L' + 1 + 1, oA2) :: (L' + 1, oB2) :: (jo, _) :: (dj, _) :: tl) (.tail _ (.tail _ (.tail _ (.tail _ (.tail _ (.head _)))))) (.tail _ (.tail _ (.tail _ (.tail _ (.tail _ (.tail _ (.head _))))))) hoj' S.td (S.items.mono fun p hp => (.tail _ (.tail _ (.tail _ (.tail _ (.tail _ (.tail _ (.tail _ hp)))))))) lo (by rw [S.items.length]; exact hnl) (cons_ne o3.2.1.symm (cons_ne (Nat.ne_of_lt k5) (cons_ne (Nat.ne_of_gt w0) (cons_ne (Nat.ne_of_lt v3) (cons_ne (Nat.ne_of_lt v4) (cons_ne (Nat.ne_of_lt v1) (cons_ne (Nat.ne_of_lt v2) (fun p hp => (S.off p hp).2.1)))))))) hbd0.1) (cons_mem (.tail _ (.tail _ (.head _))) (cons_mem (.head _) (cons_mem (.tail _ (.head _)) (cons_mem (.tail _ (.tail _ (.tail _ (.head _)))) (cons_mem (.tail _ (.tail _ (.tail _ (.tail _ (.head _))))) (cons_mem (.tail _ (.tail _ (.tail _ (.tail _ (.tail _ (.head _)))))) (cons_mem (.tail _ (.tail _ (.tail _ (.tail _ (.tail _ (.tail _ (.head _))))))) (cons_mem (.tail _ (.tail _ (.tail _ (.tail _ (.tail _ (.tail _ (.tail _ (.head _)))))))) (fun _ h9 => (.tail _ (.tail _ (.tail _ (.tail _ (.tail _ (.tail _ (.tail _ (.tail _ h9))))))))))))))))) (by k_asm) (by k_asm) (by k_asm) (by first | assumption | exact rfl) (by ktr_room) (by ktr_units) ?_
      rintro r5 h5 tk5 nx5 F5 N5 ⟨rfl, ow2, k, rfl, T2, hk, hsum, hall⟩
      dsimp only
      clear F4 N4
      k_steps
      unfold Hold
      k_dflt (refine ListComp_UR (F₀ := by k_asm) (by with_unfolding_all rfl) (by decide) (by rfl) (by decide) (by rfl) ?_)
      k_steps
      obtain ⟨es, ep, hraw, hsz, hent, hat⟩ := td_raw N5 (.head _) T2
      have hxk : (xs.drop k).length = ns.length - k := by rw [List.length_drop, S.items.length]
      refine ⟨wd, ow2, es, ep, _, rfl, by with_unfolding_all rfl, by k_asm, N5, .head _, hat, lo, by rw [hsz, sizeLine_eq, hxk]; omega, ?_⟩
      rintro s₂ ⟨g10, rfl⟩
      refine restU_ind (fun j ys' news => news = _ ∧ IntsAre ys' ((List.range j).map (fun q => ((k + q : Nat) : Int)))) ?turn2 ?done2 ⟨rfl, .nil⟩
      case turn2 =>
        rintro j ys' news hj ⟨rfl, e2'⟩ v I oI C oC D m₂ h tk E' ⟨e, he, rfl⟩ hC hx2 F6 N6 off ne
        obtain ⟨xx, hxx, hke⟩ := hent j e he
        rw [hke] at hx2
        have hxx' : xs[k + j]? = some xx := by rw [List.getElem?_drop] at hxx; exact hxx
        obtain ⟨vk, hvk, hik⟩ := S.items.keys xx (List.mem_of_getElem? hxx')
        have hkey : xx.1 = [10, 20, 17, ((k + j : Nat) : Int)] := by
          have e3 := congrArg (fun l => l[k + j]?) S.keys
          simp only [List.getElem?_map, hxx', Option.map_some] at e3
          have hlt : k + j < cc.toNat := by
            have := (List.getElem?_eq_some_iff.mp hxx').1
            rw [S.items.length, S.len] at this; exact this
          rw [List.getElem?_range hlt] at e3
          simpa using e3
        rw [hkey] at hik
        obtain ⟨b1, vk1, rfl, hik1⟩ := hik.cons_inv
        obtain ⟨b2, vk2, rfl, hik2⟩ := hik1.cons_inv
        obtain ⟨b3, vk3, rfl, hik3⟩ := hik2.cons_inv
        obtain ⟨b4, vk4, rfl, hik4⟩ := hik3.cons_inv
        obtain rfl := hik4.nil_inv
        k_steps
        unfold Hold
        refine item_tupleT (l := [.int 10 b1, .int 20 b2, .int 17 b3, .int ((k + j : Nat) : Int) b4]) (j := 3) ⟨_, (N6 _ ((.tail _ (.tail _ (.tail _ (.tail _ (.tail _ (.tail _ (.tail _ (.tail _ (.tail _ (.tail _ (.tail _ hvk))))))))))))).1, rfl, _, rfl⟩ (by decide) (by decide) (by rfl) (by rfl) ?_
        k_steps
        refine CompEnd.intro F6 N6 _ sub_refl off (.head _) ⟨rfl, ?_⟩
        rw [List.range_succ, List.map_append]
        exact e2'.append (.cons _ _ .nil)
      case done2 =>
        rintro ys' news ⟨rfl, e2'⟩
        unfold FinE
        intro D7 h7 tk7 F7 N7 o7
        rw [hsz, hxk] at e2'
        dsimp only
        k_steps
        have hkept := kept_is (fun n hn => (S.nn n hn).1) hsum hall ns.length
        rw [hkept] at e1
        unfold Hold
        refine eq_ints (News.isList N7 (.head _)) (News.isList N7 (.tail _ (.tail _ (.head _)))) e2' e1 (by ktr_units) ?_
        replace N7 := News.sub N7 (fun p hp => .tail _ hp)
        k_steps
        rename Fr _ _ _ _ => F8
        rename News _ _ _ _ => N8
        unfold Hold
        refine Ctr.use F8 N8 (stored_ctr (led' := tl) (.tail _ (.tail _ (.tail _ (.tail _ (.tail _ (.tail _ (.head _))))))) (.tail _ (.tail _ (.tail _ (.tail _ (.tail _ (.tail _ (.tail _ (.head _)))))))) hoj' (.head _) T2 (S.items.drop k) (fun p hp => (.tail _ (.tail _ (.tail _ (.tail _ (.tail _ (.tail _ (.tail _ (.tail _ hp))))))))) lo (by rw [hxk]; omega)) sub_refl (by k_asm) (by k_asm) (by k_asm) (by first | assumption | exact rfl) (by ktr_room) (by ktr_units) ?_
        rintro r9 h9 tk9 nx9 F9 N9 ⟨rfl, t9, rfl⟩
        dsimp only
        clear N8
        k_steps
        unfold Hold
        k_dflt (refine LCg.ListComp_U (F₀ := by k_asm) (by with_unfolding_all rfl) (by decide) (by rfl) (by decide) (by rfl) ?_)
        k_steps
        have hyl : ys.length = ns.length - k := by rw [e1.length]; simp
        refine LCg.CompSrc.ledger (by with_unfolding_all rfl) (by k_asm) N9 (.tail _ (.head _)) (by rw [List.size_toArray, hyl, sizeLine_eq]; omega) ?_
        intro g11
        refine restU_ind (fun j zs news => news = _ ∧ IntsAre zs ((List.range j).map (fun q => ns.getD (k + q) 0))) ?turn3 ?done3 ⟨rfl, .nil⟩
        case turn3 =>
          rintro j zs news hj ⟨rfl, e3'⟩ v I oI C oC D m₂ h tk E' hP hC hx2 F10 N10 off ne
          rw [List.size_toArray, hyl] at hj
          obtain ⟨at', ta, rfl, hat'⟩ := e1.at j v (by simpa using hP)
          rw [List.getElem?_map, List.getElem?_range hj] at hat'
          simp only [Option.map_some, Option.some.injEq] at hat'
          subst hat'
          obtain ⟨n9, tn9, en9, hn9⟩ := S.isI.at (k + j) vs[k + j]! (by
            have : k + j < vs.length := by rw [S.isI.length]; omega
            simp [this])
          have hv9 : vs[k + j]? = some (.int n9 tn9) := by
            have : k + j < vs.length := by rw [S.isI.length]; omega
            rw [← en9]; simp [this]
          k_steps
          unfold Hold
          refine tail_any (Heap.IsList.typeIs (News.isList N10 (.tail _ (.tail _ (.tail _ (.tail _ (.tail _ (.tail _ (.head _))))))))) slot_list_getitem.lookup (wpAny_getItem_list (News.isList N10 (.tail _ (.tail _ (.tail _ (.tail _ (.tail _ (.tail _ (.head _)))))))) (by omega) (by omega) (by rw [Int.toNat_natCast]; simpa using hv9) ?_) (by with_unfolding_all rfl)
          k_steps
          refine CompEnd.intro F10 N10 _ sub_refl off (.inr ⟨_, (.tail _ (.head _)), rfl, _, rfl⟩) ⟨rfl, ?_⟩
          rw [List.range_succ, List.map_append, List.map_cons, List.map_nil, show ns.getD (k + j) 0 = n9 from by simp [hn9]]
          exact e3'.append (.cons _ _ .nil)
        case done3 =>
          rintro zs news ⟨rfl, e3'⟩
          unfold FinE
          intro D12 h12 tk12 F12 N12 o12
          rw [List.size_toArray, hyl, drop_map] at e3'
          dsimp only
          k_steps
          unfold Hold
          refine LSm.sum_ints F12 N12 (by with_unfolding_all rfl) (News.isList N12 (.head _)) e3' ?_
          intro h13 tk13 t13 F13 N13
          k_steps
          rename Fr h₀ L _ m => F'
          rename News h₀ L _ _ => N'
          refine hret _ _ _ _ F' (News.sub N' (cons_mem (.tail _ (.tail _ (.tail _ (.head _)))) (fun p hp => (.tail _ (.tail _ (.tail _ (.tail _ (.tail _ (.tail _ (.tail _ (.tail _ (.tail _ (S.keep p hp))))))))))))) ⟨congrArg Value.bool ?_, _, _, _, _, _, S.a0, S.b0, S.b1, rfl⟩
          exact beq_self_eq_true _
end
/-! part: Fin -/
section
local macro_rules | `(tactic| ktr_room) => `(tactic| ((try simp only [depth_under_make, depth_under_kw, depth_in1, depth_deeper, depth_caller]); decide))
local macro_rules | `(tactic| ktr_units) => `(tactic| (have hcL9 := cLine_is; (try simp only [units_in1, units_deeper, Around.mark_units, units_caller]); (try dsimp only [ktrTop]); omega))
local macro_rules | `(tactic| w_nolog $_) => `(tactic| skip)
local macro_rules | `(tactic| walk_at "getMethod ref") => `(tactic| (k_here; (with_reducible show wpAny _ _ (getMethod (Value.ref _) (Str.ofString "put") _) _ _ _); refine hold ?_))
local macro_rules | `(tactic| walk_at "call ref") => `(tactic| (k_here; (with_reducible show wpAny _ _ (call (Value.ref 271) _) _ _ _); (have mark9 : Mark := by assumption); clear mark9; refine hold ?_))
local macro_rules | `(tactic| walk_at "call type:bytes") => `(tactic| (k_here; refine call_bytes_count (by decide) (by decide) ?_; intro tb' kb'; (try dsimp only)))
set_option maxHeartbeats 40000000 in
theorem main : PySem.Challenge.rw_on0344_01.Holds := by
  refine Mine.hd ?_
  k_go0
  all_goals try k_fold
  rename Shared => s₁
  k_steps
  unfold Hold
  refine Ctr.use (by k_asm) (by k_asm) newd_ctr sub_refl (by k_asm) (by k_asm) (by k_asm) (by first | assumption | exact rfl) (by ktr_room) (by ktr_units) ?_
  rintro r3 h3 tk3 nx3 F3 N3 ⟨x, dx, y, dy, pl, rl, Dt, od, oy, u1, u2, rfl, rfl, hod, hoy, c1, c2, c3, c4, c5, c6, -⟩
  have c7 : @LT.lt Nat _ y rl := Nat.lt_trans c4 c5
  have c8 : @LT.lt Nat _ y pl := Nat.lt_trans c7 c6
  have c9 : @LT.lt Nat _ Dt pl := Nat.lt_trans c5 c6
  dsimp only
  k_steps
  unfold Hold
  rename Fr _ _ _ _ => F4
  rename News _ _ _ _ => N4
  refine put_method F4 (by k_asm) N4 (.head _) (.tail _ (.head _)) hod ?_
  k_steps
  unfold Hold
  refine Ctr.use F4 N4 (head_ctr (more := false) (off := 16)) sub_refl (by k_asm) (by k_asm) (by k_asm) (by first | assumption | exact rfl) (by ktr_room) (by ktr_units) ?_
  rintro r7 h7 tk7 nx7 F7 N7 ⟨H, Dh, oh, rfl, rfl, hoh, hHD, hab⟩
  have hHa := (hab (pl, _) (.tail _ (.tail _ (.tail _ (.tail _ (.head _))))))
  have cH : @LT.lt Nat _ pl H ∧ @LT.lt Nat _ pl Dh := hHa
  clear hHa
  dsimp only
  k_steps
  have hdg : DgIs ⟨[(0, 64)], [], none, none, 0, 0⟩ od oy y pl [] ((rl, listOf #[.ref Dt] 0) :: (Dt, tupO [.int 0 u1, .int 64 u2]) :: []) := ⟨.none, .none, rl, [.ref Dt], 0, hod, rfl, rfl, hoy, .head _, .cons (.tail _ (.head _)) .nil, .nil⟩
  unfold Hold
  refine Ctr.use F7 N7 (put_out (rest := (H, instObj 74 Dh) :: (Dh, oh) :: (rl, _) :: (Dt, _) :: []) (hdg.mono (cons_mem (.tail _ (.tail _ (.head _))) (cons_mem (.tail _ (.tail _ (.tail _ (.head _)))) (fun _ h9 => by cases h9)))) (by decide) (by decide) (.head _) (.tail _ (.head _)) hoh (ints_zero (Int.toNat 8)) (by decide)
      c1 c2 c3 c8 (cons_out (.inr (.inl cH.1)) (cons_out (.inr (.inl cH.2)) (cons_out (.inr (.inr ⟨c7, c6⟩)) (cons_out (.inr (.inr ⟨c4, c9⟩)) (fun p hp => by cases hp))))))
      (cons_mem (.tail _ (.tail _ (.head _))) (cons_mem (.tail _ (.tail _ (.tail _ (.head _)))) (cons_mem (.tail _ (.tail _ (.tail _ (.tail _ (.head _))))) (cons_mem (.tail _ (.tail _ (.tail _ (.tail _ (.tail _ (.head _)))))) (cons_mem (.tail _ (.tail _ (.tail _ (.tail _ (.tail _ (.tail _ (.head _))))))) (cons_mem (.head _) (cons_mem (.tail _ (.head _)) (cons_mem (.tail _ (.tail _ (.tail _ (.tail _ (.tail _ (.tail _ (.tail _ (.head _)))))))) (cons_mem (.tail _ (.tail _ (.tail _ (.tail _ (.tail _ (.tail _ (.tail _ (.tail _ (.head _))))))))) (fun _ h9 => (.tail _ (.tail _ (.tail _ (.tail _ (.tail _ (.tail _ (.tail _ (.tail _ (.tail _ h9))))))))))))))))))) (by k_asm) (by k_asm) (by k_asm) (by first | assumption | exact rfl) (by ktr_room) (by ktr_units) ?_
  rintro r8 h8 tk8 nx8 F8 N8 (⟨hag, -⟩ | ⟨-, d', od', oy', pvs', np', nw, hd', rfl, rfl, hdn, hab2⟩)
  · exact absurd hag (by decide)
  have I2 : Inv d' (tkn [] 16 (List.replicate (Int.toNat 8) 0)) := by
    rw [hd']
    exact Inv.init.put H (by decide) (by decide) (by decide) (by decide)
  have hfin : d'.fin = some 24 := by rw [hd']; rfl
  have hdg2 := hdn.is (rest := []) (parts := []) .nil (by rw [hd']; rfl)
  obtain ⟨endv, fv, rl3, rowVals, nr3, pv, hod2, -⟩ := hdn
  clear hd' F7 N7
  dsimp only
  k_steps
  rename Fr _ _ _ _ => F9
  rename News _ _ _ _ => N9
  unfold Hold
  refine put_method F9 (by k_asm) N9 (.head _) (.tail _ (.head _)) hod2 ?_
  k_steps
  unfold Hold
  refine Ctr.use F9 N9 (head_ctr (more := false) (off := 8)) sub_refl (by k_asm) (by k_asm) (by k_asm) (by first | assumption | exact rfl) (by ktr_room) (by ktr_units) ?_
  rintro r10 h10 tk10 nx10 F10 N10 ⟨H2, Dh2, oh2, rfl, rfl, hoh2, hHD2, hab3⟩
  have cH2 : @LT.lt Nat _ pl H2 ∧ @LT.lt Nat _ pl Dh2 := hab3 (pl, _) (.tail _ (.tail _ (.tail _ (.tail _ (.head _)))))
  dsimp only
  clear F9 N9
  k_steps
  unfold Hold
  refine Ctr.use F10 N10 (put_out (rest := (H2, instObj 74 Dh2) :: (Dh2, oh2) :: (nw ++ ((H, instObj 74 Dh) :: (Dh, oh) :: (rl, _) :: (Dt, _) :: []))) (rows := d'.rows) (parts := d'.parts) (fin := d'.fin) (fst := d'.fst) (ahead := d'.ahead) (size := d'.size) (hdg2.mono fun p hp => by rw [List.append_nil] at hp; exact .tail _ (.tail _ (List.mem_append_left _ hp))) (Nat.lt_of_le_of_lt I2.sep.length (by decide)) (Nat.lt_trans I2.parts64 (by decide)) (.head _) (.tail _ (.head _)) hoh2 (ints_zero (Int.toNat 8)) (by decide)
      c1 c2 c3 c8 (cons_out (.inr (.inl cH2.1)) (cons_out (.inr (.inl cH2.2)) (fun p hp => (List.mem_append.mp hp).elim (fun h => .inr (.inl (hab2 p h (pl, _) (.tail _ (.tail _ (.tail _ (.tail _ (.head _)))))))) ((cons_out (.inr (.inl cH.1)) (cons_out (.inr (.inl cH.2)) (cons_out (.inr (.inr ⟨c7, c6⟩)) (cons_out (.inr (.inr ⟨c4, c9⟩)) (fun p hp => by cases hp))))) p)))))
      (cons_mem (.tail _ (.tail _ (.head _))) (cons_mem (.tail _ (.tail _ (.tail _ (.head _)))) (cons_mem (.tail _ (.tail _ (.tail _ (.tail _ (.head _))))) (cons_mem (.tail _ (.tail _ (.tail _ (.tail _ (.tail _ (.head _)))))) (cons_mem (.tail _ (.tail _ (.tail _ (.tail _ (.tail _ (.tail _ (.head _))))))) (cons_mem (.head _) (cons_mem (.tail _ (.head _)) (fun _ h9 => (.tail _ (.tail _ (.tail _ (.tail _ (.tail _ (.tail _ (.tail _ h9))))))))))))))) (by k_asm) (by k_asm) (by k_asm) (by first | assumption | exact rfl) (by ktr_room) (by ktr_units) ?_
  have hag2 : againstF d'.rows d'.fin d'.ahead (8 + ((List.replicate (Int.toNat 8) (0 : Int)).length : Int)) false = true := by
    rw [I2.denied (by decide), hfin]; rfl
  rintro r11 h11 tk11 nx11 F11 N11 (⟨-, rfl, rfl⟩ | ⟨hag3, -⟩)
  rotate_left 1
  · rw [hag2] at hag3; cases hag3
  dsimp only
  replace N11 := News.sub N11 (led' := []) (fun p hp => by cases hp)
  clear F10 N10 hab hab2 hab3
  have mark8 : Mark := trivial
  k_steps
  unfold Hold
  refine wpAny_mono (Q := fun r s' => Hold (Ex8 fun (sl : Addr) (h' : Heap) (tk' : Nat) (a b : Int) (t1 t2 : Tok) (n : Nat) => An7 (r = .ref sl) (s' = { s₁ with heap := h', toks := tk' }) (sameF F11 h') (sameN N11 h' ((sl, listOf #[.int a t1, .int b t2] n) :: [])) (0 ≤ a) (0 ≤ b) (b < 2147483647))) ?_ ?_ (fun _ _ x => x)
  · clear mark8
    k_steps
    all_goals unfold Hold
    all_goals rename Fr _ _ _ _ => F12
    all_goals rename News _ _ _ _ => N12
    all_goals refine ⟨_, _, _, _, _, _, _, _, rfl, rfl, F12, N12, ?_, ?_, ?_⟩
    all_goals first | exact Int.fmod_nonneg_of_pos _ (by decide) | exact Int.fmod_lt_of_pos _ (by decide) | (refine Int.mul_nonneg ?_ ?_ <;> (try split) <;> omega)
  rintro r12 s12 hq12
  unfold Hold at hq12
  obtain ⟨sl, h12, tk12, a, b, t1, t2, n, rfl, rfl, F12, N12, ha20, hb20, hc20⟩ := hq12
  unfold sameF at F12
  unfold sameN at N12
  clear F11 N11 mark8
  try dsimp only
  k_steps
  rename Fr _ _ _ _ => F13
  rename News _ _ _ _ => N13
  unfold Hold
  refine Ctr.use F13 N13 (dg_ctr ha20 hb20 hc20 (rest := []) (fun p hp => by cases hp)) sub_refl (by k_asm) (by k_asm) (by k_asm) (by first | assumption | exact rfl) (by ktr_room) (by ktr_units) ?_
  rintro r20 h20' tk20' nx20 F20 N20 ⟨rfl, a21, b21, t21, u21, n21, ha21, hb21, hc21, rfl⟩
  dsimp only
  k_steps
  unfold Hold
  refine Ctr.use F20 N20 (heads_ctr ha21 hb21 hc21 (rest := []) (fun p hp => by cases hp)) sub_refl (by k_asm) (by k_asm) (by k_asm) (by first | assumption | exact rfl) (by ktr_room) (by ktr_units) ?_
  rintro r21 h21' tk21' nx21 F21 N21 ⟨rfl, a22, b22, t22, u22, n22, ha22, hb22, hc22, rfl⟩
  dsimp only
  k_steps
  unfold Hold
  refine Ctr.use F21 N21 (roomr_ctr ha22 hb22 hc22 (rest := []) (fun p hp => by cases hp)) sub_refl (by k_asm) (by k_asm) (by k_asm) (by first | assumption | exact rfl) (by ktr_room) (by ktr_units) ?_
  rintro r22 h22' tk22' nx22 F22 N22 ⟨rfl, a23, b23, t23, u23, n23, ha23, hb23, hc23, rfl⟩
  dsimp only
  k_steps
  unfold Hold
  refine Ctr.use F22 N22 (roomr_ctr ha23 hb23 hc23 (rest := []) (fun p hp => by cases hp)) sub_refl (by k_asm) (by k_asm) (by k_asm) (by first | assumption | exact rfl) (by ktr_room) (by ktr_units) ?_
  rintro r23 h23' tk23' nx23 F23 N23 ⟨rfl, a24, b24, t24, u24, n24, ha24, hb24, hc24, rfl⟩
  dsimp only
  k_steps
end
end Mine
theorem PySem.Challenge.cw_on0344_01_holds : PySem.Challenge.rw_on0344_01.Holds := by
  exact Mine.main
