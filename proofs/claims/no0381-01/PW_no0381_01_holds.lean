import PyProof.Rows.All
import Wide.All
import OpenK.AllK
import Wide.FinOn
import KE.KxBytes
import KE.KBytesCut
import KE.KxDecode
import KE.KRevSl
import KE.KEqDict
import PySem.Challenge.RW_no0381_01
set_option Elab.async false
set_option maxRecDepth 100000
set_option maxHeartbeats 4000000
set_option linter.all false
set_option genInjectivity false
set_option genSizeOf false
namespace Mine
open PySem PySem.W PyProof.Rows PySem.Calls

-- Hd2

/-! the head, by hand: what the run of the text's top leaves -/
abbrev lw : OpenLaw := PySem.Challenge.rw_no0381_01
abbrev pw : Program := lw.row.toRowW.prog
noncomputable def bd : List Stmt := behindTheImports pw
noncomputable def env0 : Env := { scope := pw.main.scope, locals := mainNs, globals := mainNs, cells := [], code := .ref 13, frame := some 14 }
noncomputable def cd0 : Code := .body bd env0
noncomputable def sA (i : Nat) : Stmt := bd.getD i (.Pass ⟨0, 0, 0, 0⟩)
noncomputable def sB (i j : Nat) : Stmt := match sA i with
  | .ClassDef _ _ _ b _ _ _ _ _ _ _ => b.getD j (.Pass ⟨0, 0, 0, 0⟩)
  | _ => .Pass ⟨0, 0, 0, 0⟩
noncomputable def fnD (s : Stmt) (q : String) (g : Addr) (df pm cd : Value) : FuncData := match s with
  | .FunctionDef n a b _ _ _ sc _ _ _ => { name := n, qualname := Str.ofString q, params := a, body := .stmts b, scope := sc, globals := g, closure := [], defaults := df, kwdefaults := .none, pyModule := pm, code := cd }
  | _ => default
noncomputable def vs (x : String) (n : Nat) : Value := .str (Str.ofString x) n
noncomputable def ke (P : Params) (x : String) (n : Nat) (v : Value) : DictEntry := ⟨PyData.keyHash P (Str.ofString x), vs x n, v⟩
noncomputable def o11 (P : Params) : Obj := { cls := .type "tuple", data := .seq #[] 0 }
noncomputable def o12 (P : Params) : Obj := { cls := .none, data := .fields #[] }
noncomputable def o13 (P : Params) : Obj := { cls := .type "code", data := .fields #[vs "<module>" 182, vs "<module>" 183, vs "/claim/cut.py" 184, .int 1 0, .int 0 0, .int 0 0, .int 0 0, .int 0 0, .ref 11, .bool false, .int 181 0, .ref 12, .none, .none, .none, .none, .int 185 0, .int 1 0, vs "/claim/cut.py" 186] }
noncomputable def o14 (P : Params) : Obj := { cls := .type "frame", data := .plain, slots := #[(some (.ref 13)), (some (.ref 3)), (some (.ref 3)), none, (some (vs "__main__" 164)), none, (some (.ref 0))] }
noncomputable def h0 (P : Params) : Heap := ⟨⟨[boot_o_0 P, boot_o_1 P, boot_o_2 P, boot_o_3 P, boot_o_4 P, boot_o_5 P, boot_o_6 P, boot_o_7 P, boot_o_8 P, boot_o_9 P, boot_o_10 P, o11 P, o12 P, o13 P, o14 P]⟩, {}⟩
noncomputable def t0 (P : Params) : BT := (.node (boot_o_0 P) (.node (boot_o_1 P) (.node (boot_o_3 P) (.node (boot_o_7 P) .nil .nil) (.node (o11 P) .nil .nil)) (.node (boot_o_5 P) (.node (boot_o_9 P) .nil .nil) (.node (o13 P) .nil .nil))) (.node (boot_o_2 P) (.node (boot_o_4 P) (.node (boot_o_8 P) .nil .nil) (.node (o12 P) .nil .nil)) (.node (boot_o_6 P) (.node (boot_o_10 P) .nil .nil) (.node (o14 P) .nil .nil))))
noncomputable def o2v1 (P : Params) : Obj := { cls := .none, data := .dict #[ke P "type.__subclasses__.Exception.0" 232 (.int 46 0), ke P "type.__subclasses__.Exception.n" 233 (.int 1 0)] 2 }
noncomputable def o3v1 (P : Params) : Obj := { cls := .type "dict", data := .dict #[ke P "__name__" 165 (vs "postkeep.errors" 194), ke P "__doc__" 166 (.none), ke P "__package__" 167 (.none), ke P "__loader__" 168 (.builtin "__main__.__loader__#opaque"), ke P "__spec__" 169 (.none), ke P "__annotations__" 170 (.ref 6), ke P "__builtins__" 171 (.ref 4), ke P "__file__" 173 (vs "/claim/cut.py" 172), ke P "__cached__" 174 (.none), ke P "_wall" 193 (.ref 21), ke P "PostError" 235 (.ref 46), ke P "WordFault" 251 (.ref 59), ke P "MimeFault" 267 (.ref 71)] 13 }
noncomputable def o12v1 (P : Params) : Obj := { cls := .none, data := .fields #[.int 1 0, .int 0 0, .ref 20, .int 5 0, .int 0 0, .ref 27, .int 14 0, .int 0 0, .ref 55, .int 16 0, .int 0 0, .ref 67] }
noncomputable def o15 (P : Params) : Obj := { cls := .type "tuple", data := .seq #[] 0 }
noncomputable def o16 (P : Params) : Obj := { cls := .none, data := .fields #[] }
noncomputable def o17 (P : Params) : Obj := { cls := .type "tuple", data := .seq #[vs "k" 190] 0 }
noncomputable def o18 (P : Params) : Obj := { cls := .type "tuple", data := .seq #[] 0 }
noncomputable def o19 (P : Params) : Obj := { cls := .none, data := .func (fnD (sA 0) "_wall" 0 (.none) (.none) (.none)) }
noncomputable def o20 (P : Params) : Obj := { cls := .type "code", data := .fields #[vs "_wall" 187, vs "_wall" 188, vs "/claim/cut.py" 189, .int 1 0, .int 1 0, .int 0 0, .int 0 0, .int 3 0, .ref 15, .bool true, .int 181 0, .ref 16, .none, .ref 17, .ref 18, .ref 19, .int 191 0, .int 1 0, vs "/claim/cut.py" 192] }
noncomputable def o21 (P : Params) : Obj := { cls := .type "function", data := .func (fnD (sA 0) "_wall" 3 (.none) (vs "__main__" 164) (.ref 20)) }
noncomputable def o22 (P : Params) : Obj := { cls := .type "tuple", data := .seq #[.type "Exception"] 0 }
noncomputable def o23 (P : Params) : Obj := { cls := .type "builtin_function_or_method", data := .fields #[.builtin "type.__prepare__", .type "type"] }
noncomputable def o24 (P : Params) : Obj := { cls := .type "dict", data := .dict #[ke P "__module__" 203 (vs "postkeep.errors" 194), ke P "__qualname__" 205 (vs "PostError" 204), ke P "__firstlineno__" 207 (.int 5 206), ke P "__init__" 218 (.ref 36), ke P "told" 225 (.ref 43), ke P "__static_attributes__" 228 (.ref 44)] 6 }
noncomputable def o25 (P : Params) : Obj := { cls := .type "tuple", data := .seq #[] 0 }
noncomputable def o26 (P : Params) : Obj := { cls := .none, data := .fields #[.int 7 0, .int 4 0, .ref 35, .int 12 0, .int 4 0, .ref 42] }
noncomputable def o27 (P : Params) : Obj := { cls := .type "code", data := .fields #[vs "PostError" 198, vs "PostError" 199, vs "/claim/cut.py" 200, .int 5 0, .int 0 0, .int 0 0, .int 0 0, .int 0 0, .ref 25, .bool false, .int 181 0, .ref 26, .none, .none, .none, .none, .int 201 0, .int 5 0, vs "/claim/cut.py" 202] }
noncomputable def o28 (P : Params) : Obj := { cls := .type "frame", data := .plain, slots := #[(some (.ref 27)), (some (.ref 3)), (some (.ref 24)), none, (some (vs "postkeep.errors" 194)), none, (some (.ref 0))] }
noncomputable def o29 (P : Params) : Obj := { cls := .type "tuple", data := .seq #[.int (-1) 209] 0 }
noncomputable def o30 (P : Params) : Obj := { cls := .type "tuple", data := .seq #[] 0 }
noncomputable def o31 (P : Params) : Obj := { cls := .none, data := .fields #[] }
noncomputable def o32 (P : Params) : Obj := { cls := .type "tuple", data := .seq #[vs "self" 213, vs "what" 214, vs "at" 215] 0 }
noncomputable def o33 (P : Params) : Obj := { cls := .type "tuple", data := .seq #[] 0 }
noncomputable def o34 (P : Params) : Obj := { cls := .none, data := .func (fnD (sB 2 0) "PostError.__init__" 0 (.none) (.none) (.none)) }
noncomputable def o35 (P : Params) : Obj := { cls := .type "code", data := .fields #[vs "__init__" 210, vs "PostError.__init__" 211, vs "/claim/cut.py" 212, .int 7 0, .int 3 0, .int 0 0, .int 0 0, .int 3 0, .ref 30, .bool true, .int 181 0, .ref 31, .none, .ref 32, .ref 33, .ref 34, .int 216 0, .int 7 0, vs "/claim/cut.py" 217] }
noncomputable def o36 (P : Params) : Obj := { cls := .type "function", data := .func (fnD (sB 2 0) "PostError.__init__" 3 (.ref 29) (vs "postkeep.errors" 194) (.ref 35)) }
noncomputable def o37 (P : Params) : Obj := { cls := .type "tuple", data := .seq #[] 0 }
noncomputable def o38 (P : Params) : Obj := { cls := .none, data := .fields #[] }
noncomputable def o39 (P : Params) : Obj := { cls := .type "tuple", data := .seq #[vs "self" 222] 0 }
noncomputable def o40 (P : Params) : Obj := { cls := .type "tuple", data := .seq #[] 0 }
noncomputable def o41 (P : Params) : Obj := { cls := .none, data := .func (fnD (sB 2 1) "PostError.told" 0 (.none) (.none) (.none)) }
noncomputable def o42 (P : Params) : Obj := { cls := .type "code", data := .fields #[vs "told" 219, vs "PostError.told" 220, vs "/claim/cut.py" 221, .int 12 0, .int 1 0, .int 0 0, .int 0 0, .int 3 0, .ref 37, .bool true, .int 181 0, .ref 38, .none, .ref 39, .ref 40, .ref 41, .int 223 0, .int 12 0, vs "/claim/cut.py" 224] }
noncomputable def o43 (P : Params) : Obj := { cls := .type "function", data := .func (fnD (sB 2 1) "PostError.told" 3 (.none) (vs "postkeep.errors" 194) (.ref 42)) }
noncomputable def o44 (P : Params) : Obj := { cls := .type "tuple", data := .seq #[vs "at" 226, vs "what" 227] 0 }
noncomputable def o45 (P : Params) : Obj := { cls := .type "dict", data := .dict #[ke P "__module__" 203 (vs "postkeep.errors" 194), ke P "__firstlineno__" 207 (.int 5 206), ke P "__init__" 218 (.ref 36), ke P "told" 225 (.ref 43), ke P "__static_attributes__" 228 (.ref 44), ke P "__weakref__" 230 (.ref 47), ke P "__doc__" 231 (.none)] 3 }
noncomputable def o46 (P : Params) : Obj := { cls := .type "type", data := .cls { name := Str.ofString "PostError", bases := [.type "Exception"], mro := [.ref 46, .type "Exception", .type "BaseException", .type "object"], ns := 45, qualname := Str.ofString "PostError", hasDict := true, slotNames := [], subclasses := [.ref 59, .ref 71], abstract := false, collection := none, hasDel := false }, slots := #[(some (.ref 22)), none, (some (vs "PostError" 196)), (some (vs "PostError" 204)), (some (.builtin "Exception.__new__")), (some (.bool true))] }
noncomputable def o47 (P : Params) : Obj := { cls := .type "getset_descriptor", data := .fields #[vs "__weakref__" 229, .ref 46, .builtin "ExceptionGroup.__weakref__", .none] }
noncomputable def o48 (P : Params) : Obj := { cls := .type "super", data := .fields #[.ref 46, .ref 46, .ref 46] }
noncomputable def o49 (P : Params) : Obj := { cls := .type "builtin_function_or_method", data := .fields #[.builtin "object.__init_subclass__", .ref 46] }
noncomputable def o50 (P : Params) : Obj := { cls := .type "tuple", data := .seq #[.ref 46] 0 }
noncomputable def o51 (P : Params) : Obj := { cls := .type "builtin_function_or_method", data := .fields #[.builtin "type.__prepare__", .type "type"] }
noncomputable def o52 (P : Params) : Obj := { cls := .type "dict", data := .dict #[ke P "__module__" 243 (vs "postkeep.errors" 194), ke P "__qualname__" 245 (vs "WordFault" 244), ke P "__firstlineno__" 247 (.int 14 246), ke P "__static_attributes__" 248 (.ref 57)] 4 }
noncomputable def o53 (P : Params) : Obj := { cls := .type "tuple", data := .seq #[] 0 }
noncomputable def o54 (P : Params) : Obj := { cls := .none, data := .fields #[] }
noncomputable def o55 (P : Params) : Obj := { cls := .type "code", data := .fields #[vs "WordFault" 238, vs "WordFault" 239, vs "/claim/cut.py" 240, .int 14 0, .int 0 0, .int 0 0, .int 0 0, .int 0 0, .ref 53, .bool false, .int 181 0, .ref 54, .none, .none, .none, .none, .int 241 0, .int 14 0, vs "/claim/cut.py" 242] }
noncomputable def o56 (P : Params) : Obj := { cls := .type "frame", data := .plain, slots := #[(some (.ref 55)), (some (.ref 3)), (some (.ref 52)), none, (some (vs "postkeep.errors" 194)), none, (some (.ref 0))] }
noncomputable def o57 (P : Params) : Obj := { cls := .type "tuple", data := .seq #[] 0 }
noncomputable def o58 (P : Params) : Obj := { cls := .type "dict", data := .dict #[ke P "__module__" 243 (vs "postkeep.errors" 194), ke P "__firstlineno__" 247 (.int 14 246), ke P "__static_attributes__" 248 (.ref 57), ke P "__doc__" 249 (.none)] 2 }
noncomputable def o59 (P : Params) : Obj := { cls := .type "type", data := .cls { name := Str.ofString "WordFault", bases := [.ref 46], mro := [.ref 59, .ref 46, .type "Exception", .type "BaseException", .type "object"], ns := 58, qualname := Str.ofString "WordFault", hasDict := true, slotNames := [], subclasses := [], abstract := false, collection := none, hasDel := false }, slots := #[(some (.ref 50)), none, (some (vs "WordFault" 236)), (some (vs "WordFault" 244)), (some (.builtin "Exception.__new__")), (some (.bool true))] }
noncomputable def o60 (P : Params) : Obj := { cls := .type "super", data := .fields #[.ref 59, .ref 59, .ref 59] }
noncomputable def o61 (P : Params) : Obj := { cls := .type "builtin_function_or_method", data := .fields #[.builtin "object.__init_subclass__", .ref 59] }
noncomputable def o62 (P : Params) : Obj := { cls := .type "tuple", data := .seq #[.ref 46] 0 }
noncomputable def o63 (P : Params) : Obj := { cls := .type "builtin_function_or_method", data := .fields #[.builtin "type.__prepare__", .type "type"] }
noncomputable def o64 (P : Params) : Obj := { cls := .type "dict", data := .dict #[ke P "__module__" 259 (vs "postkeep.errors" 194), ke P "__qualname__" 261 (vs "MimeFault" 260), ke P "__firstlineno__" 263 (.int 16 262), ke P "__static_attributes__" 264 (.ref 69)] 4 }
noncomputable def o65 (P : Params) : Obj := { cls := .type "tuple", data := .seq #[] 0 }
noncomputable def o66 (P : Params) : Obj := { cls := .none, data := .fields #[] }
noncomputable def o67 (P : Params) : Obj := { cls := .type "code", data := .fields #[vs "MimeFault" 254, vs "MimeFault" 255, vs "/claim/cut.py" 256, .int 16 0, .int 0 0, .int 0 0, .int 0 0, .int 0 0, .ref 65, .bool false, .int 181 0, .ref 66, .none, .none, .none, .none, .int 257 0, .int 16 0, vs "/claim/cut.py" 258] }
noncomputable def o68 (P : Params) : Obj := { cls := .type "frame", data := .plain, slots := #[(some (.ref 67)), (some (.ref 3)), (some (.ref 64)), none, (some (vs "postkeep.errors" 194)), none, (some (.ref 0))] }
noncomputable def o69 (P : Params) : Obj := { cls := .type "tuple", data := .seq #[] 0 }
noncomputable def o70 (P : Params) : Obj := { cls := .type "dict", data := .dict #[ke P "__module__" 259 (vs "postkeep.errors" 194), ke P "__firstlineno__" 263 (.int 16 262), ke P "__static_attributes__" 264 (.ref 69), ke P "__doc__" 265 (.none)] 2 }
noncomputable def o71 (P : Params) : Obj := { cls := .type "type", data := .cls { name := Str.ofString "MimeFault", bases := [.ref 46], mro := [.ref 71, .ref 46, .type "Exception", .type "BaseException", .type "object"], ns := 70, qualname := Str.ofString "MimeFault", hasDict := true, slotNames := [], subclasses := [], abstract := false, collection := none, hasDel := false }, slots := #[(some (.ref 62)), none, (some (vs "MimeFault" 252)), (some (vs "MimeFault" 260)), (some (.builtin "Exception.__new__")), (some (.bool true))] }
noncomputable def o72 (P : Params) : Obj := { cls := .type "super", data := .fields #[.ref 71, .ref 71, .ref 71] }
noncomputable def o73 (P : Params) : Obj := { cls := .type "builtin_function_or_method", data := .fields #[.builtin "object.__init_subclass__", .ref 71] }
noncomputable def t1 (P : Params) : BT := (.node (boot_o_0 P) (.node (boot_o_1 P) (.node (o3v1 P) (.node (boot_o_7 P) (.node (o15 P) (.node (o31 P) (.node (o63 P) .nil .nil) .nil) (.node (o47 P) .nil .nil)) (.node (o23 P) (.node (o39 P) (.node (o71 P) .nil .nil) .nil) (.node (o55 P) .nil .nil))) (.node (o11 P) (.node (o19 P) (.node (o35 P) (.node (o67 P) .nil .nil) .nil) (.node (o51 P) .nil .nil)) (.node (o27 P) (.node (o43 P) .nil .nil) (.node (o59 P) .nil .nil)))) (.node (boot_o_5 P) (.node (boot_o_9 P) (.node (o17 P) (.node (o33 P) (.node (o65 P) .nil .nil) .nil) (.node (o49 P) .nil .nil)) (.node (o25 P) (.node (o41 P) (.node (o73 P) .nil .nil) .nil) (.node (o57 P) .nil .nil))) (.node (o13 P) (.node (o21 P) (.node (o37 P) (.node (o69 P) .nil .nil) .nil) (.node (o53 P) .nil .nil)) (.node (o29 P) (.node (o45 P) .nil .nil) (.node (o61 P) .nil .nil))))) (.node (o2v1 P) (.node (boot_o_4 P) (.node (boot_o_8 P) (.node (o16 P) (.node (o32 P) (.node (o64 P) .nil .nil) .nil) (.node (o48 P) .nil .nil)) (.node (o24 P) (.node (o40 P) (.node (o72 P) .nil .nil) .nil) (.node (o56 P) .nil .nil))) (.node (o12v1 P) (.node (o20 P) (.node (o36 P) (.node (o68 P) .nil .nil) .nil) (.node (o52 P) .nil .nil)) (.node (o28 P) (.node (o44 P) .nil .nil) (.node (o60 P) .nil .nil)))) (.node (boot_o_6 P) (.node (boot_o_10 P) (.node (o18 P) (.node (o34 P) (.node (o66 P) .nil .nil) .nil) (.node (o50 P) .nil .nil)) (.node (o26 P) (.node (o42 P) .nil .nil) (.node (o58 P) .nil .nil))) (.node (o14 P) (.node (o22 P) (.node (o38 P) (.node (o70 P) .nil .nil) .nil) (.node (o54 P) .nil .nil)) (.node (o30 P) (.node (o46 P) .nil .nil) (.node (o62 P) .nil .nil))))))
noncomputable def o3v2 (P : Params) : Obj := { cls := .type "dict", data := .dict #[ke P "__name__" 165 (vs "postkeep.charsets" 401), ke P "__doc__" 166 (.none), ke P "__package__" 167 (.none), ke P "__loader__" 168 (.builtin "__main__.__loader__#opaque"), ke P "__spec__" 169 (.none), ke P "__annotations__" 170 (.ref 6), ke P "__builtins__" 171 (.ref 4), ke P "__file__" 173 (vs "/claim/cut.py" 172), ke P "__cached__" 174 (.none), ke P "_wall" 193 (.ref 21), ke P "PostError" 235 (.ref 46), ke P "WordFault" 251 (.ref 59), ke P "MimeFault" 267 (.ref 71), ke P "MOST_FIGURES" 271 (.int 20 270), ke P "Cursor" 381 (.ref 155), ke P "lower_code" 388 (.ref 166), ke P "lower" 394 (.ref 171), ke P "lower_text" 400 (.ref 176), ke P "ASCII" 404 (vs "us-ascii" 403), ke P "LATIN" 406 (vs "iso-8859-1" 405), ke P "UTF8" 408 (vs "utf-8" 407), ke P "CHARSETS" 409 (.ref 177), ke P "UNKNOWN_SIGN" 412 (vs "�" 411)] 23 }
noncomputable def o12v2 (P : Params) : Obj := { cls := .none, data := .fields #[.int 1 0, .int 0 0, .ref 20, .int 5 0, .int 0 0, .ref 27, .int 14 0, .int 0 0, .ref 55, .int 16 0, .int 0 0, .ref 67, .int 20 0, .int 0 0, .ref 79, .int 64 0, .int 0 0, .ref 165, .int 66 0, .int 0 0, .ref 170, .int 68 0, .int 0 0, .ref 175] }
noncomputable def o74 (P : Params) : Obj := { cls := .type "tuple", data := .seq #[] 0 }
noncomputable def o75 (P : Params) : Obj := { cls := .type "builtin_function_or_method", data := .fields #[.builtin "type.__prepare__", .type "type"] }
noncomputable def o76 (P : Params) : Obj := { cls := .type "dict", data := .dict #[ke P "__module__" 279 (vs "postkeep.octets" 268), ke P "__qualname__" 281 (vs "Cursor" 280), ke P "__firstlineno__" 283 (.int 20 282), ke P "__init__" 296 (.ref 88), ke P "is_done" 303 (.ref 95), ke P "peek" 313 (.ref 103), ke P "take" 321 (.ref 110), ke P "starts" 329 (.ref 117), ke P "skip" 337 (.ref 124), ke P "take_while" 345 (.ref 131), ke P "take_until" 353 (.ref 138), ke P "number" 362 (.ref 145), ke P "find" 370 (.ref 152), ke P "__static_attributes__" 374 (.ref 153)] 14 }
noncomputable def o77 (P : Params) : Obj := { cls := .type "tuple", data := .seq #[] 0 }
noncomputable def o78 (P : Params) : Obj := { cls := .none, data := .fields #[.int 22 0, .int 4 0, .ref 87, .int 27 0, .int 4 0, .ref 94, .int 30 0, .int 4 0, .ref 102, .int 34 0, .int 4 0, .ref 109, .int 40 0, .int 4 0, .ref 116, .int 43 0, .int 4 0, .ref 123, .int 46 0, .int 4 0, .ref 130, .int 49 0, .int 4 0, .ref 137, .int 52 0, .int 4 0, .ref 144, .int 62 0, .int 4 0, .ref 151] }
noncomputable def o79 (P : Params) : Obj := { cls := .type "code", data := .fields #[vs "Cursor" 274, vs "Cursor" 275, vs "/claim/cut.py" 276, .int 20 0, .int 0 0, .int 0 0, .int 0 0, .int 0 0, .ref 77, .bool false, .int 181 0, .ref 78, .none, .none, .none, .none, .int 277 0, .int 20 0, vs "/claim/cut.py" 278] }
noncomputable def o80 (P : Params) : Obj := { cls := .type "frame", data := .plain, slots := #[(some (.ref 79)), (some (.ref 3)), (some (.ref 76)), none, (some (vs "postkeep.octets" 268)), none, (some (.ref 0))] }
noncomputable def o81 (P : Params) : Obj := { cls := .type "tuple", data := .seq #[.int 0 284, .int (-1) 286] 0 }
noncomputable def o82 (P : Params) : Obj := { cls := .type "tuple", data := .seq #[] 0 }
noncomputable def o83 (P : Params) : Obj := { cls := .none, data := .fields #[] }
noncomputable def o84 (P : Params) : Obj := { cls := .type "tuple", data := .seq #[vs "self" 290, vs "data" 291, vs "at" 292, vs "end" 293] 0 }
noncomputable def o85 (P : Params) : Obj := { cls := .type "tuple", data := .seq #[] 0 }
noncomputable def o86 (P : Params) : Obj := { cls := .none, data := .func (fnD (sB 7 0) "Cursor.__init__" 0 (.none) (.none) (.none)) }
noncomputable def o87 (P : Params) : Obj := { cls := .type "code", data := .fields #[vs "__init__" 287, vs "Cursor.__init__" 288, vs "/claim/cut.py" 289, .int 22 0, .int 4 0, .int 0 0, .int 0 0, .int 3 0, .ref 82, .bool true, .int 181 0, .ref 83, .none, .ref 84, .ref 85, .ref 86, .int 294 0, .int 22 0, vs "/claim/cut.py" 295] }
noncomputable def o88 (P : Params) : Obj := { cls := .type "function", data := .func (fnD (sB 7 0) "Cursor.__init__" 3 (.ref 81) (vs "postkeep.octets" 268) (.ref 87)) }
noncomputable def o89 (P : Params) : Obj := { cls := .type "tuple", data := .seq #[] 0 }
noncomputable def o90 (P : Params) : Obj := { cls := .none, data := .fields #[] }
noncomputable def o91 (P : Params) : Obj := { cls := .type "tuple", data := .seq #[vs "self" 300] 0 }
noncomputable def o92 (P : Params) : Obj := { cls := .type "tuple", data := .seq #[] 0 }
noncomputable def o93 (P : Params) : Obj := { cls := .none, data := .func (fnD (sB 7 1) "Cursor.is_done" 0 (.none) (.none) (.none)) }
noncomputable def o94 (P : Params) : Obj := { cls := .type "code", data := .fields #[vs "is_done" 297, vs "Cursor.is_done" 298, vs "/claim/cut.py" 299, .int 27 0, .int 1 0, .int 0 0, .int 0 0, .int 3 0, .ref 89, .bool true, .int 181 0, .ref 90, .none, .ref 91, .ref 92, .ref 93, .int 301 0, .int 27 0, vs "/claim/cut.py" 302] }
noncomputable def o95 (P : Params) : Obj := { cls := .type "function", data := .func (fnD (sB 7 1) "Cursor.is_done" 3 (.none) (vs "postkeep.octets" 268) (.ref 94)) }
noncomputable def o96 (P : Params) : Obj := { cls := .type "tuple", data := .seq #[.int 0 304] 0 }
noncomputable def o97 (P : Params) : Obj := { cls := .type "tuple", data := .seq #[] 0 }
noncomputable def o98 (P : Params) : Obj := { cls := .none, data := .fields #[] }
noncomputable def o99 (P : Params) : Obj := { cls := .type "tuple", data := .seq #[vs "self" 308, vs "ahead" 309, vs "place" 310] 0 }
noncomputable def o100 (P : Params) : Obj := { cls := .type "tuple", data := .seq #[] 0 }
noncomputable def o101 (P : Params) : Obj := { cls := .none, data := .func (fnD (sB 7 2) "Cursor.peek" 0 (.none) (.none) (.none)) }
noncomputable def o102 (P : Params) : Obj := { cls := .type "code", data := .fields #[vs "peek" 305, vs "Cursor.peek" 306, vs "/claim/cut.py" 307, .int 30 0, .int 2 0, .int 0 0, .int 0 0, .int 3 0, .ref 97, .bool true, .int 181 0, .ref 98, .none, .ref 99, .ref 100, .ref 101, .int 311 0, .int 30 0, vs "/claim/cut.py" 312] }
noncomputable def o103 (P : Params) : Obj := { cls := .type "function", data := .func (fnD (sB 7 2) "Cursor.peek" 3 (.ref 96) (vs "postkeep.octets" 268) (.ref 102)) }
noncomputable def o104 (P : Params) : Obj := { cls := .type "tuple", data := .seq #[] 0 }
noncomputable def o105 (P : Params) : Obj := { cls := .none, data := .fields #[] }
noncomputable def o106 (P : Params) : Obj := { cls := .type "tuple", data := .seq #[vs "self" 317, vs "code" 318] 0 }
noncomputable def o107 (P : Params) : Obj := { cls := .type "tuple", data := .seq #[] 0 }
noncomputable def o108 (P : Params) : Obj := { cls := .none, data := .func (fnD (sB 7 3) "Cursor.take" 0 (.none) (.none) (.none)) }
noncomputable def o109 (P : Params) : Obj := { cls := .type "code", data := .fields #[vs "take" 314, vs "Cursor.take" 315, vs "/claim/cut.py" 316, .int 34 0, .int 1 0, .int 0 0, .int 0 0, .int 3 0, .ref 104, .bool true, .int 181 0, .ref 105, .none, .ref 106, .ref 107, .ref 108, .int 319 0, .int 34 0, vs "/claim/cut.py" 320] }
noncomputable def o110 (P : Params) : Obj := { cls := .type "function", data := .func (fnD (sB 7 3) "Cursor.take" 3 (.none) (vs "postkeep.octets" 268) (.ref 109)) }
noncomputable def o111 (P : Params) : Obj := { cls := .type "tuple", data := .seq #[] 0 }
noncomputable def o112 (P : Params) : Obj := { cls := .none, data := .fields #[] }
noncomputable def o113 (P : Params) : Obj := { cls := .type "tuple", data := .seq #[vs "self" 325, vs "word" 326] 0 }
noncomputable def o114 (P : Params) : Obj := { cls := .type "tuple", data := .seq #[] 0 }
noncomputable def o115 (P : Params) : Obj := { cls := .none, data := .func (fnD (sB 7 4) "Cursor.starts" 0 (.none) (.none) (.none)) }
noncomputable def o116 (P : Params) : Obj := { cls := .type "code", data := .fields #[vs "starts" 322, vs "Cursor.starts" 323, vs "/claim/cut.py" 324, .int 40 0, .int 2 0, .int 0 0, .int 0 0, .int 3 0, .ref 111, .bool true, .int 181 0, .ref 112, .none, .ref 113, .ref 114, .ref 115, .int 327 0, .int 40 0, vs "/claim/cut.py" 328] }
noncomputable def o117 (P : Params) : Obj := { cls := .type "function", data := .func (fnD (sB 7 4) "Cursor.starts" 3 (.none) (vs "postkeep.octets" 268) (.ref 116)) }
noncomputable def o118 (P : Params) : Obj := { cls := .type "tuple", data := .seq #[] 0 }
noncomputable def o119 (P : Params) : Obj := { cls := .none, data := .fields #[] }
noncomputable def o120 (P : Params) : Obj := { cls := .type "tuple", data := .seq #[vs "self" 333, vs "word" 334] 0 }
noncomputable def o121 (P : Params) : Obj := { cls := .type "tuple", data := .seq #[] 0 }
noncomputable def o122 (P : Params) : Obj := { cls := .none, data := .func (fnD (sB 7 5) "Cursor.skip" 0 (.none) (.none) (.none)) }
noncomputable def o123 (P : Params) : Obj := { cls := .type "code", data := .fields #[vs "skip" 330, vs "Cursor.skip" 331, vs "/claim/cut.py" 332, .int 43 0, .int 2 0, .int 0 0, .int 0 0, .int 3 0, .ref 118, .bool true, .int 181 0, .ref 119, .none, .ref 120, .ref 121, .ref 122, .int 335 0, .int 43 0, vs "/claim/cut.py" 336] }
noncomputable def o124 (P : Params) : Obj := { cls := .type "function", data := .func (fnD (sB 7 5) "Cursor.skip" 3 (.none) (vs "postkeep.octets" 268) (.ref 123)) }
noncomputable def o125 (P : Params) : Obj := { cls := .type "tuple", data := .seq #[] 0 }
noncomputable def o126 (P : Params) : Obj := { cls := .none, data := .fields #[] }
noncomputable def o127 (P : Params) : Obj := { cls := .type "tuple", data := .seq #[vs "self" 341, vs "codes" 342] 0 }
noncomputable def o128 (P : Params) : Obj := { cls := .type "tuple", data := .seq #[] 0 }
noncomputable def o129 (P : Params) : Obj := { cls := .none, data := .func (fnD (sB 7 6) "Cursor.take_while" 0 (.none) (.none) (.none)) }
noncomputable def o130 (P : Params) : Obj := { cls := .type "code", data := .fields #[vs "take_while" 338, vs "Cursor.take_while" 339, vs "/claim/cut.py" 340, .int 46 0, .int 2 0, .int 0 0, .int 0 0, .int 3 0, .ref 125, .bool true, .int 181 0, .ref 126, .none, .ref 127, .ref 128, .ref 129, .int 343 0, .int 46 0, vs "/claim/cut.py" 344] }
noncomputable def o131 (P : Params) : Obj := { cls := .type "function", data := .func (fnD (sB 7 6) "Cursor.take_while" 3 (.none) (vs "postkeep.octets" 268) (.ref 130)) }
noncomputable def o132 (P : Params) : Obj := { cls := .type "tuple", data := .seq #[] 0 }
noncomputable def o133 (P : Params) : Obj := { cls := .none, data := .fields #[] }
noncomputable def o134 (P : Params) : Obj := { cls := .type "tuple", data := .seq #[vs "self" 349, vs "codes" 350] 0 }
noncomputable def o135 (P : Params) : Obj := { cls := .type "tuple", data := .seq #[] 0 }
noncomputable def o136 (P : Params) : Obj := { cls := .none, data := .func (fnD (sB 7 7) "Cursor.take_until" 0 (.none) (.none) (.none)) }
noncomputable def o137 (P : Params) : Obj := { cls := .type "code", data := .fields #[vs "take_until" 346, vs "Cursor.take_until" 347, vs "/claim/cut.py" 348, .int 49 0, .int 2 0, .int 0 0, .int 0 0, .int 3 0, .ref 132, .bool true, .int 181 0, .ref 133, .none, .ref 134, .ref 135, .ref 136, .int 351 0, .int 49 0, vs "/claim/cut.py" 352] }
noncomputable def o138 (P : Params) : Obj := { cls := .type "function", data := .func (fnD (sB 7 7) "Cursor.take_until" 3 (.none) (vs "postkeep.octets" 268) (.ref 137)) }
noncomputable def o139 (P : Params) : Obj := { cls := .type "tuple", data := .seq #[] 0 }
noncomputable def o140 (P : Params) : Obj := { cls := .none, data := .fields #[] }
noncomputable def o141 (P : Params) : Obj := { cls := .type "tuple", data := .seq #[vs "self" 357, vs "first" 358, vs "number" 359] 0 }
noncomputable def o142 (P : Params) : Obj := { cls := .type "tuple", data := .seq #[] 0 }
noncomputable def o143 (P : Params) : Obj := { cls := .none, data := .func (fnD (sB 7 8) "Cursor.number" 0 (.none) (.none) (.none)) }
noncomputable def o144 (P : Params) : Obj := { cls := .type "code", data := .fields #[vs "number" 354, vs "Cursor.number" 355, vs "/claim/cut.py" 356, .int 52 0, .int 1 0, .int 0 0, .int 0 0, .int 3 0, .ref 139, .bool true, .int 181 0, .ref 140, .none, .ref 141, .ref 142, .ref 143, .int 360 0, .int 52 0, vs "/claim/cut.py" 361] }
noncomputable def o145 (P : Params) : Obj := { cls := .type "function", data := .func (fnD (sB 7 8) "Cursor.number" 3 (.none) (vs "postkeep.octets" 268) (.ref 144)) }
noncomputable def o146 (P : Params) : Obj := { cls := .type "tuple", data := .seq #[] 0 }
noncomputable def o147 (P : Params) : Obj := { cls := .none, data := .fields #[] }
noncomputable def o148 (P : Params) : Obj := { cls := .type "tuple", data := .seq #[vs "self" 366, vs "word" 367] 0 }
noncomputable def o149 (P : Params) : Obj := { cls := .type "tuple", data := .seq #[] 0 }
noncomputable def o150 (P : Params) : Obj := { cls := .none, data := .func (fnD (sB 7 9) "Cursor.find" 0 (.none) (.none) (.none)) }
noncomputable def o151 (P : Params) : Obj := { cls := .type "code", data := .fields #[vs "find" 363, vs "Cursor.find" 364, vs "/claim/cut.py" 365, .int 62 0, .int 2 0, .int 0 0, .int 0 0, .int 3 0, .ref 146, .bool true, .int 181 0, .ref 147, .none, .ref 148, .ref 149, .ref 150, .int 368 0, .int 62 0, vs "/claim/cut.py" 369] }
noncomputable def o152 (P : Params) : Obj := { cls := .type "function", data := .func (fnD (sB 7 9) "Cursor.find" 3 (.none) (vs "postkeep.octets" 268) (.ref 151)) }
noncomputable def o153 (P : Params) : Obj := { cls := .type "tuple", data := .seq #[vs "at" 371, vs "data" 372, vs "end" 373] 0 }
noncomputable def o154 (P : Params) : Obj := { cls := .type "dict", data := .dict #[ke P "__module__" 279 (vs "postkeep.octets" 268), ke P "__firstlineno__" 283 (.int 20 282), ke P "__init__" 296 (.ref 88), ke P "is_done" 303 (.ref 95), ke P "peek" 313 (.ref 103), ke P "take" 321 (.ref 110), ke P "starts" 329 (.ref 117), ke P "skip" 337 (.ref 124), ke P "take_while" 345 (.ref 131), ke P "take_until" 353 (.ref 138), ke P "number" 362 (.ref 145), ke P "find" 370 (.ref 152), ke P "__static_attributes__" 374 (.ref 153), ke P "__dict__" 376 (.ref 156), ke P "__weakref__" 378 (.ref 157), ke P "__doc__" 379 (.none)] 4 }
noncomputable def o155 (P : Params) : Obj := { cls := .type "type", data := .cls { name := Str.ofString "Cursor", bases := [.type "object"], mro := [.ref 155, .type "object"], ns := 154, qualname := Str.ofString "Cursor", hasDict := true, slotNames := [], subclasses := [], abstract := false, collection := none, hasDel := false }, slots := #[none, none, (some (vs "Cursor" 272)), (some (vs "Cursor" 280)), (some (.builtin "object.__new__")), (some (.bool true))] }
noncomputable def o156 (P : Params) : Obj := { cls := .type "getset_descriptor", data := .fields #[vs "__dict__" 375, .ref 155, .builtin "function.__dict__", .builtin "function.__dict__#set"] }
noncomputable def o157 (P : Params) : Obj := { cls := .type "getset_descriptor", data := .fields #[vs "__weakref__" 377, .ref 155, .builtin "ExceptionGroup.__weakref__", .none] }
noncomputable def o158 (P : Params) : Obj := { cls := .type "super", data := .fields #[.ref 155, .ref 155, .ref 155] }
noncomputable def o159 (P : Params) : Obj := { cls := .type "builtin_function_or_method", data := .fields #[.builtin "object.__init_subclass__", .ref 155] }
noncomputable def o160 (P : Params) : Obj := { cls := .type "tuple", data := .seq #[] 0 }
noncomputable def o161 (P : Params) : Obj := { cls := .none, data := .fields #[] }
noncomputable def o162 (P : Params) : Obj := { cls := .type "tuple", data := .seq #[vs "code" 385] 0 }
noncomputable def o163 (P : Params) : Obj := { cls := .type "tuple", data := .seq #[] 0 }
noncomputable def o164 (P : Params) : Obj := { cls := .none, data := .func (fnD (sA 8) "lower_code" 0 (.none) (.none) (.none)) }
noncomputable def o165 (P : Params) : Obj := { cls := .type "code", data := .fields #[vs "lower_code" 382, vs "lower_code" 383, vs "/claim/cut.py" 384, .int 64 0, .int 1 0, .int 0 0, .int 0 0, .int 3 0, .ref 160, .bool true, .int 181 0, .ref 161, .none, .ref 162, .ref 163, .ref 164, .int 386 0, .int 64 0, vs "/claim/cut.py" 387] }
noncomputable def o166 (P : Params) : Obj := { cls := .type "function", data := .func (fnD (sA 8) "lower_code" 3 (.none) (vs "postkeep.octets" 268) (.ref 165)) }
noncomputable def o167 (P : Params) : Obj := { cls := .type "tuple", data := .seq #[] 0 }
noncomputable def o168 (P : Params) : Obj := { cls := .none, data := .fields #[] }
noncomputable def o169 (P : Params) : Obj := { cls := .none, data := .func (fnD (sA 9) "lower" 0 (.none) (.none) (.none)) }
noncomputable def o170 (P : Params) : Obj := { cls := .type "code", data := .fields #[vs "lower" 389, vs "lower" 390, vs "/claim/cut.py" 391, .int 66 0, .int 1 0, .int 0 0, .int 0 0, .int 3 0, .ref 167, .bool true, .int 181 0, .ref 168, .none, .none, .none, .ref 169, .int 392 0, .int 66 0, vs "/claim/cut.py" 393] }
noncomputable def o171 (P : Params) : Obj := { cls := .type "function", data := .func (fnD (sA 9) "lower" 3 (.none) (vs "postkeep.octets" 268) (.ref 170)) }
noncomputable def o172 (P : Params) : Obj := { cls := .type "tuple", data := .seq #[] 0 }
noncomputable def o173 (P : Params) : Obj := { cls := .none, data := .fields #[] }
noncomputable def o174 (P : Params) : Obj := { cls := .none, data := .func (fnD (sA 10) "lower_text" 0 (.none) (.none) (.none)) }
noncomputable def o175 (P : Params) : Obj := { cls := .type "code", data := .fields #[vs "lower_text" 395, vs "lower_text" 396, vs "/claim/cut.py" 397, .int 68 0, .int 1 0, .int 0 0, .int 0 0, .int 3 0, .ref 172, .bool true, .int 181 0, .ref 173, .none, .none, .none, .ref 174, .int 398 0, .int 68 0, vs "/claim/cut.py" 399] }
noncomputable def o176 (P : Params) : Obj := { cls := .type "function", data := .func (fnD (sA 10) "lower_text" 3 (.none) (vs "postkeep.octets" 268) (.ref 175)) }
noncomputable def o177 (P : Params) : Obj := { cls := .type "tuple", data := .seq #[vs "us-ascii" 403, vs "iso-8859-1" 405, vs "utf-8" 407] 0 }
noncomputable def t2 (P : Params) : BT := (.node (boot_o_0 P) (.node (boot_o_1 P) (.node (o3v2 P) (.node (boot_o_7 P) (.node (o15 P) (.node (o31 P) (.node (o63 P) (.node (o127 P) .nil .nil) .nil) (.node (o95 P) (.node (o159 P) .nil .nil) .nil)) (.node (o47 P) (.node (o79 P) (.node (o143 P) .nil .nil) .nil) (.node (o111 P) (.node (o175 P) .nil .nil) .nil))) (.node (o23 P) (.node (o39 P) (.node (o71 P) (.node (o135 P) .nil .nil) .nil) (.node (o103 P) (.node (o167 P) .nil .nil) .nil)) (.node (o55 P) (.node (o87 P) (.node (o151 P) .nil .nil) .nil) (.node (o119 P) .nil .nil)))) (.node (o11 P) (.node (o19 P) (.node (o35 P) (.node (o67 P) (.node (o131 P) .nil .nil) .nil) (.node (o99 P) (.node (o163 P) .nil .nil) .nil)) (.node (o51 P) (.node (o83 P) (.node (o147 P) .nil .nil) .nil) (.node (o115 P) .nil .nil))) (.node (o27 P) (.node (o43 P) (.node (o75 P) (.node (o139 P) .nil .nil) .nil) (.node (o107 P) (.node (o171 P) .nil .nil) .nil)) (.node (o59 P) (.node (o91 P) (.node (o155 P) .nil .nil) .nil) (.node (o123 P) .nil .nil))))) (.node (boot_o_5 P) (.node (boot_o_9 P) (.node (o17 P) (.node (o33 P) (.node (o65 P) (.node (o129 P) .nil .nil) .nil) (.node (o97 P) (.node (o161 P) .nil .nil) .nil)) (.node (o49 P) (.node (o81 P) (.node (o145 P) .nil .nil) .nil) (.node (o113 P) (.node (o177 P) .nil .nil) .nil))) (.node (o25 P) (.node (o41 P) (.node (o73 P) (.node (o137 P) .nil .nil) .nil) (.node (o105 P) (.node (o169 P) .nil .nil) .nil)) (.node (o57 P) (.node (o89 P) (.node (o153 P) .nil .nil) .nil) (.node (o121 P) .nil .nil)))) (.node (o13 P) (.node (o21 P) (.node (o37 P) (.node (o69 P) (.node (o133 P) .nil .nil) .nil) (.node (o101 P) (.node (o165 P) .nil .nil) .nil)) (.node (o53 P) (.node (o85 P) (.node (o149 P) .nil .nil) .nil) (.node (o117 P) .nil .nil))) (.node (o29 P) (.node (o45 P) (.node (o77 P) (.node (o141 P) .nil .nil) .nil) (.node (o109 P) (.node (o173 P) .nil .nil) .nil)) (.node (o61 P) (.node (o93 P) (.node (o157 P) .nil .nil) .nil) (.node (o125 P) .nil .nil)))))) (.node (o2v1 P) (.node (boot_o_4 P) (.node (boot_o_8 P) (.node (o16 P) (.node (o32 P) (.node (o64 P) (.node (o128 P) .nil .nil) .nil) (.node (o96 P) (.node (o160 P) .nil .nil) .nil)) (.node (o48 P) (.node (o80 P) (.node (o144 P) .nil .nil) .nil) (.node (o112 P) (.node (o176 P) .nil .nil) .nil))) (.node (o24 P) (.node (o40 P) (.node (o72 P) (.node (o136 P) .nil .nil) .nil) (.node (o104 P) (.node (o168 P) .nil .nil) .nil)) (.node (o56 P) (.node (o88 P) (.node (o152 P) .nil .nil) .nil) (.node (o120 P) .nil .nil)))) (.node (o12v2 P) (.node (o20 P) (.node (o36 P) (.node (o68 P) (.node (o132 P) .nil .nil) .nil) (.node (o100 P) (.node (o164 P) .nil .nil) .nil)) (.node (o52 P) (.node (o84 P) (.node (o148 P) .nil .nil) .nil) (.node (o116 P) .nil .nil))) (.node (o28 P) (.node (o44 P) (.node (o76 P) (.node (o140 P) .nil .nil) .nil) (.node (o108 P) (.node (o172 P) .nil .nil) .nil)) (.node (o60 P) (.node (o92 P) (.node (o156 P) .nil .nil) .nil) (.node (o124 P) .nil .nil))))) (.node (boot_o_6 P) (.node (boot_o_10 P) (.node (o18 P) (.node (o34 P) (.node (o66 P) (.node (o130 P) .nil .nil) .nil) (.node (o98 P) (.node (o162 P) .nil .nil) .nil)) (.node (o50 P) (.node (o82 P) (.node (o146 P) .nil .nil) .nil) (.node (o114 P) .nil .nil))) (.node (o26 P) (.node (o42 P) (.node (o74 P) (.node (o138 P) .nil .nil) .nil) (.node (o106 P) (.node (o170 P) .nil .nil) .nil)) (.node (o58 P) (.node (o90 P) (.node (o154 P) .nil .nil) .nil) (.node (o122 P) .nil .nil)))) (.node (o14 P) (.node (o22 P) (.node (o38 P) (.node (o70 P) (.node (o134 P) .nil .nil) .nil) (.node (o102 P) (.node (o166 P) .nil .nil) .nil)) (.node (o54 P) (.node (o86 P) (.node (o150 P) .nil .nil) .nil) (.node (o118 P) .nil .nil))) (.node (o30 P) (.node (o46 P) (.node (o78 P) (.node (o142 P) .nil .nil) .nil) (.node (o110 P) (.node (o174 P) .nil .nil) .nil)) (.node (o62 P) (.node (o94 P) (.node (o158 P) .nil .nil) .nil) (.node (o126 P) .nil .nil)))))))
noncomputable def o3v3 (P : Params) : Obj := { cls := .type "dict", data := .dict #[ke P "__name__" 165 (vs "postkeep.params" 548), ke P "__doc__" 166 (.none), ke P "__package__" 167 (.none), ke P "__loader__" 168 (.builtin "__main__.__loader__#opaque"), ke P "__spec__" 169 (.none), ke P "__annotations__" 170 (.ref 6), ke P "__builtins__" 171 (.ref 4), ke P "__file__" 173 (vs "/claim/cut.py" 172), ke P "__cached__" 174 (.none), ke P "_wall" 193 (.ref 21), ke P "PostError" 235 (.ref 46), ke P "WordFault" 251 (.ref 59), ke P "MimeFault" 267 (.ref 71), ke P "MOST_FIGURES" 271 (.int 20 270), ke P "Cursor" 381 (.ref 155), ke P "lower_code" 388 (.ref 166), ke P "lower" 394 (.ref 171), ke P "lower_text" 400 (.ref 176), ke P "ASCII" 404 (vs "us-ascii" 403), ke P "LATIN" 406 (vs "iso-8859-1" 405), ke P "UTF8" 408 (vs "utf-8" 407), ke P "CHARSETS" 409 (.ref 177), ke P "UNKNOWN_SIGN" 412 (vs "�" 411), ke P "charset_names" 420 (.ref 184), ke P "charset_name" 427 (.ref 191), ke P "need_charset" 434 (.ref 198), ke P "follower_span" 441 (.ref 205), ke P "utf8_sign" 455 (.ref 212), ke P "sign_at" 464 (.ref 219), ke P "text_in" 476 (.ref 226), ke P "strict_text" 488 (.ref 233), ke P "guessed_text" 495 (.ref 240), ke P "MOST_DEPTH" 499 (.int 20 498), ke P "NEVER_ESCAPED" 503 (.ref 241), ke P "line_end" 511 (.ref 248), ke P "inside_at" 521 (.ref 255), ke P "closed_at" 534 (.ref 262), ke P "comment_at" 547 (.ref 269), ke P "WHITE" 554 (.ref 270), ke P "SEMICOLON" 556 (.int 59 555), ke P "EQUALS" 558 (.int 61 557), ke P "QUOTE" 560 (.int 34 559), ke P "BRACKET" 562 (.int 40 561), ke P "PER_CENT" 564 (.int 37 563), ke P "BARRED" 566 (.bytes #[40, 41, 60, 62, 64, 44, 59, 58, 92, 34, 47, 91, 93, 63, 61] 565), ke P "HEX_FIGURES" 568 (.bytes #[48, 49, 50, 51, 52, 53, 54, 55, 56, 57, 65, 66, 67, 68, 69, 70] 567), ke P "is_token_code" 575 (.ref 277), ke P "skip_between" 582 (.ref 284), ke P "take_token" 590 (.ref 291)] 49 }
noncomputable def o12v3 (P : Params) : Obj := { cls := .none, data := .fields #[.int 1 0, .int 0 0, .ref 20, .int 5 0, .int 0 0, .ref 27, .int 14 0, .int 0 0, .ref 55, .int 16 0, .int 0 0, .ref 67, .int 20 0, .int 0 0, .ref 79, .int 64 0, .int 0 0, .ref 165, .int 66 0, .int 0 0, .ref 170, .int 68 0, .int 0 0, .ref 175, .int 76 0, .int 0 0, .ref 183, .int 85 0, .int 0 0, .ref 190, .int 87 0, .int 0 0, .ref 197, .int 90 0, .int 0 0, .ref 204, .int 98 0, .int 0 0, .ref 211, .int 112 0, .int 0 0, .ref 218, .int 118 0, .int 0 0, .ref 225, .int 127 0, .int 0 0, .ref 232, .int 138 0, .int 0 0, .ref 239, .int 146 0, .int 0 0, .ref 247, .int 150 0, .int 0 0, .ref 254, .int 163 0, .int 0 0, .ref 261, .int 172 0, .int 0 0, .ref 268, .int 196 0, .int 0 0, .ref 276, .int 198 0, .int 0 0, .ref 283, .int 206 0, .int 0 0, .ref 290] }
noncomputable def o178 (P : Params) : Obj := { cls := .type "tuple", data := .seq #[] 0 }
noncomputable def o179 (P : Params) : Obj := { cls := .none, data := .fields #[] }
noncomputable def o180 (P : Params) : Obj := { cls := .type "tuple", data := .seq #[vs "found" 416, vs "alias" 417] 0 }
noncomputable def o181 (P : Params) : Obj := { cls := .type "tuple", data := .seq #[] 0 }
noncomputable def o182 (P : Params) : Obj := { cls := .none, data := .func (fnD (sA 17) "charset_names" 0 (.none) (.none) (.none)) }
noncomputable def o183 (P : Params) : Obj := { cls := .type "code", data := .fields #[vs "charset_names" 413, vs "charset_names" 414, vs "/claim/cut.py" 415, .int 76 0, .int 0 0, .int 0 0, .int 0 0, .int 3 0, .ref 178, .bool true, .int 181 0, .ref 179, .none, .ref 180, .ref 181, .ref 182, .int 418 0, .int 76 0, vs "/claim/cut.py" 419] }
noncomputable def o184 (P : Params) : Obj := { cls := .type "function", data := .func (fnD (sA 17) "charset_names" 3 (.none) (vs "postkeep.charsets" 401) (.ref 183)) }
noncomputable def o185 (P : Params) : Obj := { cls := .type "tuple", data := .seq #[] 0 }
noncomputable def o186 (P : Params) : Obj := { cls := .none, data := .fields #[] }
noncomputable def o187 (P : Params) : Obj := { cls := .type "tuple", data := .seq #[vs "text" 424] 0 }
noncomputable def o188 (P : Params) : Obj := { cls := .type "tuple", data := .seq #[] 0 }
noncomputable def o189 (P : Params) : Obj := { cls := .none, data := .func (fnD (sA 18) "charset_name" 0 (.none) (.none) (.none)) }
noncomputable def o190 (P : Params) : Obj := { cls := .type "code", data := .fields #[vs "charset_name" 421, vs "charset_name" 422, vs "/claim/cut.py" 423, .int 85 0, .int 1 0, .int 0 0, .int 0 0, .int 3 0, .ref 185, .bool true, .int 181 0, .ref 186, .none, .ref 187, .ref 188, .ref 189, .int 425 0, .int 85 0, vs "/claim/cut.py" 426] }
noncomputable def o191 (P : Params) : Obj := { cls := .type "function", data := .func (fnD (sA 18) "charset_name" 3 (.none) (vs "postkeep.charsets" 401) (.ref 190)) }
noncomputable def o192 (P : Params) : Obj := { cls := .type "tuple", data := .seq #[] 0 }
noncomputable def o193 (P : Params) : Obj := { cls := .none, data := .fields #[] }
noncomputable def o194 (P : Params) : Obj := { cls := .type "tuple", data := .seq #[vs "charset" 431] 0 }
noncomputable def o195 (P : Params) : Obj := { cls := .type "tuple", data := .seq #[] 0 }
noncomputable def o196 (P : Params) : Obj := { cls := .none, data := .func (fnD (sA 19) "need_charset" 0 (.none) (.none) (.none)) }
noncomputable def o197 (P : Params) : Obj := { cls := .type "code", data := .fields #[vs "need_charset" 428, vs "need_charset" 429, vs "/claim/cut.py" 430, .int 87 0, .int 1 0, .int 0 0, .int 0 0, .int 3 0, .ref 192, .bool true, .int 181 0, .ref 193, .none, .ref 194, .ref 195, .ref 196, .int 432 0, .int 87 0, vs "/claim/cut.py" 433] }
noncomputable def o198 (P : Params) : Obj := { cls := .type "function", data := .func (fnD (sA 19) "need_charset" 3 (.none) (vs "postkeep.charsets" 401) (.ref 197)) }
noncomputable def o199 (P : Params) : Obj := { cls := .type "tuple", data := .seq #[] 0 }
noncomputable def o200 (P : Params) : Obj := { cls := .none, data := .fields #[] }
noncomputable def o201 (P : Params) : Obj := { cls := .type "tuple", data := .seq #[vs "lead" 438] 0 }
noncomputable def o202 (P : Params) : Obj := { cls := .type "tuple", data := .seq #[] 0 }
noncomputable def o203 (P : Params) : Obj := { cls := .none, data := .func (fnD (sA 20) "follower_span" 0 (.none) (.none) (.none)) }
noncomputable def o204 (P : Params) : Obj := { cls := .type "code", data := .fields #[vs "follower_span" 435, vs "follower_span" 436, vs "/claim/cut.py" 437, .int 90 0, .int 1 0, .int 0 0, .int 0 0, .int 3 0, .ref 199, .bool true, .int 181 0, .ref 200, .none, .ref 201, .ref 202, .ref 203, .int 439 0, .int 90 0, vs "/claim/cut.py" 440] }
noncomputable def o205 (P : Params) : Obj := { cls := .type "function", data := .func (fnD (sA 20) "follower_span" 3 (.none) (vs "postkeep.charsets" 401) (.ref 204)) }
noncomputable def o206 (P : Params) : Obj := { cls := .type "tuple", data := .seq #[] 0 }
noncomputable def o207 (P : Params) : Obj := { cls := .none, data := .fields #[] }
noncomputable def o208 (P : Params) : Obj := { cls := .type "tuple", data := .seq #[vs "octets" 445, vs "at" 446, vs "lead" 447, vs "least" 448, vs "most" 449, vs "count" 450, vs "code" 451, vs "place" 452] 0 }
noncomputable def o209 (P : Params) : Obj := { cls := .type "tuple", data := .seq #[] 0 }
noncomputable def o210 (P : Params) : Obj := { cls := .none, data := .func (fnD (sA 21) "utf8_sign" 0 (.none) (.none) (.none)) }
noncomputable def o211 (P : Params) : Obj := { cls := .type "code", data := .fields #[vs "utf8_sign" 442, vs "utf8_sign" 443, vs "/claim/cut.py" 444, .int 98 0, .int 2 0, .int 0 0, .int 0 0, .int 3 0, .ref 206, .bool true, .int 181 0, .ref 207, .none, .ref 208, .ref 209, .ref 210, .int 453 0, .int 98 0, vs "/claim/cut.py" 454] }
noncomputable def o212 (P : Params) : Obj := { cls := .type "function", data := .func (fnD (sA 21) "utf8_sign" 3 (.none) (vs "postkeep.charsets" 401) (.ref 211)) }
noncomputable def o213 (P : Params) : Obj := { cls := .type "tuple", data := .seq #[] 0 }
noncomputable def o214 (P : Params) : Obj := { cls := .none, data := .fields #[] }
noncomputable def o215 (P : Params) : Obj := { cls := .type "tuple", data := .seq #[vs "charset" 459, vs "octets" 460, vs "at" 461] 0 }
noncomputable def o216 (P : Params) : Obj := { cls := .type "tuple", data := .seq #[] 0 }
noncomputable def o217 (P : Params) : Obj := { cls := .none, data := .func (fnD (sA 22) "sign_at" 0 (.none) (.none) (.none)) }
noncomputable def o218 (P : Params) : Obj := { cls := .type "code", data := .fields #[vs "sign_at" 456, vs "sign_at" 457, vs "/claim/cut.py" 458, .int 112 0, .int 3 0, .int 0 0, .int 0 0, .int 3 0, .ref 213, .bool true, .int 181 0, .ref 214, .none, .ref 215, .ref 216, .ref 217, .int 462 0, .int 112 0, vs "/claim/cut.py" 463] }
noncomputable def o219 (P : Params) : Obj := { cls := .type "function", data := .func (fnD (sA 22) "sign_at" 3 (.none) (vs "postkeep.charsets" 401) (.ref 218)) }
noncomputable def o220 (P : Params) : Obj := { cls := .type "tuple", data := .seq #[] 0 }
noncomputable def o221 (P : Params) : Obj := { cls := .none, data := .fields #[] }
noncomputable def o222 (P : Params) : Obj := { cls := .type "tuple", data := .seq #[vs "charset" 468, vs "octets" 469, vs "signs" 470, vs "at" 471, vs "code" 472, vs "length" 473] 0 }
noncomputable def o223 (P : Params) : Obj := { cls := .type "tuple", data := .seq #[] 0 }
noncomputable def o224 (P : Params) : Obj := { cls := .none, data := .func (fnD (sA 23) "text_in" 0 (.none) (.none) (.none)) }
noncomputable def o225 (P : Params) : Obj := { cls := .type "code", data := .fields #[vs "text_in" 465, vs "text_in" 466, vs "/claim/cut.py" 467, .int 118 0, .int 2 0, .int 0 0, .int 0 0, .int 3 0, .ref 220, .bool true, .int 181 0, .ref 221, .none, .ref 222, .ref 223, .ref 224, .int 474 0, .int 118 0, vs "/claim/cut.py" 475] }
noncomputable def o226 (P : Params) : Obj := { cls := .type "function", data := .func (fnD (sA 23) "text_in" 3 (.none) (vs "postkeep.charsets" 401) (.ref 225)) }
noncomputable def o227 (P : Params) : Obj := { cls := .type "tuple", data := .seq #[] 0 }
noncomputable def o228 (P : Params) : Obj := { cls := .none, data := .fields #[] }
noncomputable def o229 (P : Params) : Obj := { cls := .type "tuple", data := .seq #[vs "charset" 480, vs "octets" 481, vs "signs" 482, vs "at" 483, vs "code" 484, vs "length" 485] 0 }
noncomputable def o230 (P : Params) : Obj := { cls := .type "tuple", data := .seq #[] 0 }
noncomputable def o231 (P : Params) : Obj := { cls := .none, data := .func (fnD (sA 24) "strict_text" 0 (.none) (.none) (.none)) }
noncomputable def o232 (P : Params) : Obj := { cls := .type "code", data := .fields #[vs "strict_text" 477, vs "strict_text" 478, vs "/claim/cut.py" 479, .int 127 0, .int 2 0, .int 0 0, .int 0 0, .int 3 0, .ref 227, .bool true, .int 181 0, .ref 228, .none, .ref 229, .ref 230, .ref 231, .int 486 0, .int 127 0, vs "/claim/cut.py" 487] }
noncomputable def o233 (P : Params) : Obj := { cls := .type "function", data := .func (fnD (sA 24) "strict_text" 3 (.none) (vs "postkeep.charsets" 401) (.ref 232)) }
noncomputable def o234 (P : Params) : Obj := { cls := .type "tuple", data := .seq #[] 0 }
noncomputable def o235 (P : Params) : Obj := { cls := .none, data := .fields #[] }
noncomputable def o236 (P : Params) : Obj := { cls := .type "tuple", data := .seq #[vs "octets" 492] 0 }
noncomputable def o237 (P : Params) : Obj := { cls := .type "tuple", data := .seq #[] 0 }
noncomputable def o238 (P : Params) : Obj := { cls := .none, data := .func (fnD (sA 25) "guessed_text" 0 (.none) (.none) (.none)) }
noncomputable def o239 (P : Params) : Obj := { cls := .type "code", data := .fields #[vs "guessed_text" 489, vs "guessed_text" 490, vs "/claim/cut.py" 491, .int 138 0, .int 1 0, .int 0 0, .int 0 0, .int 3 0, .ref 234, .bool true, .int 181 0, .ref 235, .none, .ref 236, .ref 237, .ref 238, .int 493 0, .int 138 0, vs "/claim/cut.py" 494] }
noncomputable def o240 (P : Params) : Obj := { cls := .type "function", data := .func (fnD (sA 25) "guessed_text" 3 (.none) (vs "postkeep.charsets" 401) (.ref 239)) }
noncomputable def o241 (P : Params) : Obj := { cls := .type "tuple", data := .seq #[.int 0 500, .int 10 501, .int 13 502] 0 }
noncomputable def o242 (P : Params) : Obj := { cls := .type "tuple", data := .seq #[] 0 }
noncomputable def o243 (P : Params) : Obj := { cls := .none, data := .fields #[] }
noncomputable def o244 (P : Params) : Obj := { cls := .type "tuple", data := .seq #[vs "data" 507, vs "at" 508] 0 }
noncomputable def o245 (P : Params) : Obj := { cls := .type "tuple", data := .seq #[] 0 }
noncomputable def o246 (P : Params) : Obj := { cls := .none, data := .func (fnD (sA 29) "line_end" 0 (.none) (.none) (.none)) }
noncomputable def o247 (P : Params) : Obj := { cls := .type "code", data := .fields #[vs "line_end" 504, vs "line_end" 505, vs "/claim/cut.py" 506, .int 146 0, .int 2 0, .int 0 0, .int 0 0, .int 3 0, .ref 242, .bool true, .int 181 0, .ref 243, .none, .ref 244, .ref 245, .ref 246, .int 509 0, .int 146 0, vs "/claim/cut.py" 510] }
noncomputable def o248 (P : Params) : Obj := { cls := .type "function", data := .func (fnD (sA 29) "line_end" 3 (.none) (vs "postkeep.tokens" 496) (.ref 247)) }
noncomputable def o249 (P : Params) : Obj := { cls := .type "tuple", data := .seq #[] 0 }
noncomputable def o250 (P : Params) : Obj := { cls := .none, data := .fields #[] }
noncomputable def o251 (P : Params) : Obj := { cls := .type "tuple", data := .seq #[vs "data" 515, vs "at" 516, vs "begun" 517, vs "behind" 518] 0 }
noncomputable def o252 (P : Params) : Obj := { cls := .type "tuple", data := .seq #[] 0 }
noncomputable def o253 (P : Params) : Obj := { cls := .none, data := .func (fnD (sA 30) "inside_at" 0 (.none) (.none) (.none)) }
noncomputable def o254 (P : Params) : Obj := { cls := .type "code", data := .fields #[vs "inside_at" 512, vs "inside_at" 513, vs "/claim/cut.py" 514, .int 150 0, .int 3 0, .int 0 0, .int 0 0, .int 3 0, .ref 249, .bool true, .int 181 0, .ref 250, .none, .ref 251, .ref 252, .ref 253, .int 519 0, .int 150 0, vs "/claim/cut.py" 520] }
noncomputable def o255 (P : Params) : Obj := { cls := .type "function", data := .func (fnD (sA 30) "inside_at" 3 (.none) (vs "postkeep.tokens" 496) (.ref 254)) }
noncomputable def o256 (P : Params) : Obj := { cls := .type "tuple", data := .seq #[] 0 }
noncomputable def o257 (P : Params) : Obj := { cls := .none, data := .fields #[] }
noncomputable def o258 (P : Params) : Obj := { cls := .type "tuple", data := .seq #[vs "data" 525, vs "begun" 526, vs "closing" 527, vs "barred" 528, vs "parts" 529, vs "at" 530, vs "octets" 531] 0 }
noncomputable def o259 (P : Params) : Obj := { cls := .type "tuple", data := .seq #[] 0 }
noncomputable def o260 (P : Params) : Obj := { cls := .none, data := .func (fnD (sA 31) "closed_at" 0 (.none) (.none) (.none)) }
noncomputable def o261 (P : Params) : Obj := { cls := .type "code", data := .fields #[vs "closed_at" 522, vs "closed_at" 523, vs "/claim/cut.py" 524, .int 163 0, .int 4 0, .int 0 0, .int 0 0, .int 3 0, .ref 256, .bool true, .int 181 0, .ref 257, .none, .ref 258, .ref 259, .ref 260, .int 532 0, .int 163 0, vs "/claim/cut.py" 533] }
noncomputable def o262 (P : Params) : Obj := { cls := .type "function", data := .func (fnD (sA 31) "closed_at" 3 (.none) (vs "postkeep.tokens" 496) (.ref 261)) }
noncomputable def o263 (P : Params) : Obj := { cls := .type "tuple", data := .seq #[] 0 }
noncomputable def o264 (P : Params) : Obj := { cls := .none, data := .fields #[] }
noncomputable def o265 (P : Params) : Obj := { cls := .type "tuple", data := .seq #[vs "data" 538, vs "begun" 539, vs "parts" 540, vs "depth" 541, vs "at" 542, vs "sign" 543, vs "octets" 544] 0 }
noncomputable def o266 (P : Params) : Obj := { cls := .type "tuple", data := .seq #[] 0 }
noncomputable def o267 (P : Params) : Obj := { cls := .none, data := .func (fnD (sA 32) "comment_at" 0 (.none) (.none) (.none)) }
noncomputable def o268 (P : Params) : Obj := { cls := .type "code", data := .fields #[vs "comment_at" 535, vs "comment_at" 536, vs "/claim/cut.py" 537, .int 172 0, .int 2 0, .int 0 0, .int 0 0, .int 3 0, .ref 263, .bool true, .int 181 0, .ref 264, .none, .ref 265, .ref 266, .ref 267, .int 545 0, .int 172 0, vs "/claim/cut.py" 546] }
noncomputable def o269 (P : Params) : Obj := { cls := .type "function", data := .func (fnD (sA 32) "comment_at" 3 (.none) (vs "postkeep.tokens" 496) (.ref 268)) }
noncomputable def o270 (P : Params) : Obj := { cls := .type "tuple", data := .seq #[.int 9 550, .int 10 551, .int 13 552, .int 32 553] 0 }
noncomputable def o271 (P : Params) : Obj := { cls := .type "tuple", data := .seq #[] 0 }
noncomputable def o272 (P : Params) : Obj := { cls := .none, data := .fields #[] }
noncomputable def o273 (P : Params) : Obj := { cls := .type "tuple", data := .seq #[vs "code" 572] 0 }
noncomputable def o274 (P : Params) : Obj := { cls := .type "tuple", data := .seq #[] 0 }
noncomputable def o275 (P : Params) : Obj := { cls := .none, data := .func (fnD (sA 42) "is_token_code" 0 (.none) (.none) (.none)) }
noncomputable def o276 (P : Params) : Obj := { cls := .type "code", data := .fields #[vs "is_token_code" 569, vs "is_token_code" 570, vs "/claim/cut.py" 571, .int 196 0, .int 1 0, .int 0 0, .int 0 0, .int 3 0, .ref 271, .bool true, .int 181 0, .ref 272, .none, .ref 273, .ref 274, .ref 275, .int 573 0, .int 196 0, vs "/claim/cut.py" 574] }
noncomputable def o277 (P : Params) : Obj := { cls := .type "function", data := .func (fnD (sA 42) "is_token_code" 3 (.none) (vs "postkeep.params" 548) (.ref 276)) }
noncomputable def o278 (P : Params) : Obj := { cls := .type "tuple", data := .seq #[] 0 }
noncomputable def o279 (P : Params) : Obj := { cls := .none, data := .fields #[] }
noncomputable def o280 (P : Params) : Obj := { cls := .type "tuple", data := .seq #[vs "cursor" 579] 0 }
noncomputable def o281 (P : Params) : Obj := { cls := .type "tuple", data := .seq #[] 0 }
noncomputable def o282 (P : Params) : Obj := { cls := .none, data := .func (fnD (sA 43) "skip_between" 0 (.none) (.none) (.none)) }
noncomputable def o283 (P : Params) : Obj := { cls := .type "code", data := .fields #[vs "skip_between" 576, vs "skip_between" 577, vs "/claim/cut.py" 578, .int 198 0, .int 1 0, .int 0 0, .int 0 0, .int 3 0, .ref 278, .bool true, .int 181 0, .ref 279, .none, .ref 280, .ref 281, .ref 282, .int 580 0, .int 198 0, vs "/claim/cut.py" 581] }
noncomputable def o284 (P : Params) : Obj := { cls := .type "function", data := .func (fnD (sA 43) "skip_between" 3 (.none) (vs "postkeep.params" 548) (.ref 283)) }
noncomputable def o285 (P : Params) : Obj := { cls := .type "tuple", data := .seq #[] 0 }
noncomputable def o286 (P : Params) : Obj := { cls := .none, data := .fields #[] }
noncomputable def o287 (P : Params) : Obj := { cls := .type "tuple", data := .seq #[vs "cursor" 586, vs "first" 587] 0 }
noncomputable def o288 (P : Params) : Obj := { cls := .type "tuple", data := .seq #[] 0 }
noncomputable def o289 (P : Params) : Obj := { cls := .none, data := .func (fnD (sA 44) "take_token" 0 (.none) (.none) (.none)) }
noncomputable def o290 (P : Params) : Obj := { cls := .type "code", data := .fields #[vs "take_token" 583, vs "take_token" 584, vs "/claim/cut.py" 585, .int 206 0, .int 1 0, .int 0 0, .int 0 0, .int 3 0, .ref 285, .bool true, .int 181 0, .ref 286, .none, .ref 287, .ref 288, .ref 289, .int 588 0, .int 206 0, vs "/claim/cut.py" 589] }
noncomputable def o291 (P : Params) : Obj := { cls := .type "function", data := .func (fnD (sA 44) "take_token" 3 (.none) (vs "postkeep.params" 548) (.ref 290)) }
noncomputable def t3 (P : Params) : BT := (.node (boot_o_0 P) (.node (boot_o_1 P) (.node (o3v3 P) (.node (boot_o_7 P) (.node (o15 P) (.node (o31 P) (.node (o63 P) (.node (o127 P) (.node (o255 P) .nil .nil) .nil) (.node (o191 P) .nil .nil)) (.node (o95 P) (.node (o159 P) (.node (o287 P) .nil .nil) .nil) (.node (o223 P) .nil .nil))) (.node (o47 P) (.node (o79 P) (.node (o143 P) (.node (o271 P) .nil .nil) .nil) (.node (o207 P) .nil .nil)) (.node (o111 P) (.node (o175 P) .nil .nil) (.node (o239 P) .nil .nil)))) (.node (o23 P) (.node (o39 P) (.node (o71 P) (.node (o135 P) (.node (o263 P) .nil .nil) .nil) (.node (o199 P) .nil .nil)) (.node (o103 P) (.node (o167 P) .nil .nil) (.node (o231 P) .nil .nil))) (.node (o55 P) (.node (o87 P) (.node (o151 P) (.node (o279 P) .nil .nil) .nil) (.node (o215 P) .nil .nil)) (.node (o119 P) (.node (o183 P) .nil .nil) (.node (o247 P) .nil .nil))))) (.node (o11 P) (.node (o19 P) (.node (o35 P) (.node (o67 P) (.node (o131 P) (.node (o259 P) .nil .nil) .nil) (.node (o195 P) .nil .nil)) (.node (o99 P) (.node (o163 P) (.node (o291 P) .nil .nil) .nil) (.node (o227 P) .nil .nil))) (.node (o51 P) (.node (o83 P) (.node (o147 P) (.node (o275 P) .nil .nil) .nil) (.node (o211 P) .nil .nil)) (.node (o115 P) (.node (o179 P) .nil .nil) (.node (o243 P) .nil .nil)))) (.node (o27 P) (.node (o43 P) (.node (o75 P) (.node (o139 P) (.node (o267 P) .nil .nil) .nil) (.node (o203 P) .nil .nil)) (.node (o107 P) (.node (o171 P) .nil .nil) (.node (o235 P) .nil .nil))) (.node (o59 P) (.node (o91 P) (.node (o155 P) (.node (o283 P) .nil .nil) .nil) (.node (o219 P) .nil .nil)) (.node (o123 P) (.node (o187 P) .nil .nil) (.node (o251 P) .nil .nil)))))) (.node (boot_o_5 P) (.node (boot_o_9 P) (.node (o17 P) (.node (o33 P) (.node (o65 P) (.node (o129 P) (.node (o257 P) .nil .nil) .nil) (.node (o193 P) .nil .nil)) (.node (o97 P) (.node (o161 P) (.node (o289 P) .nil .nil) .nil) (.node (o225 P) .nil .nil))) (.node (o49 P) (.node (o81 P) (.node (o145 P) (.node (o273 P) .nil .nil) .nil) (.node (o209 P) .nil .nil)) (.node (o113 P) (.node (o177 P) .nil .nil) (.node (o241 P) .nil .nil)))) (.node (o25 P) (.node (o41 P) (.node (o73 P) (.node (o137 P) (.node (o265 P) .nil .nil) .nil) (.node (o201 P) .nil .nil)) (.node (o105 P) (.node (o169 P) .nil .nil) (.node (o233 P) .nil .nil))) (.node (o57 P) (.node (o89 P) (.node (o153 P) (.node (o281 P) .nil .nil) .nil) (.node (o217 P) .nil .nil)) (.node (o121 P) (.node (o185 P) .nil .nil) (.node (o249 P) .nil .nil))))) (.node (o13 P) (.node (o21 P) (.node (o37 P) (.node (o69 P) (.node (o133 P) (.node (o261 P) .nil .nil) .nil) (.node (o197 P) .nil .nil)) (.node (o101 P) (.node (o165 P) .nil .nil) (.node (o229 P) .nil .nil))) (.node (o53 P) (.node (o85 P) (.node (o149 P) (.node (o277 P) .nil .nil) .nil) (.node (o213 P) .nil .nil)) (.node (o117 P) (.node (o181 P) .nil .nil) (.node (o245 P) .nil .nil)))) (.node (o29 P) (.node (o45 P) (.node (o77 P) (.node (o141 P) (.node (o269 P) .nil .nil) .nil) (.node (o205 P) .nil .nil)) (.node (o109 P) (.node (o173 P) .nil .nil) (.node (o237 P) .nil .nil))) (.node (o61 P) (.node (o93 P) (.node (o157 P) (.node (o285 P) .nil .nil) .nil) (.node (o221 P) .nil .nil)) (.node (o125 P) (.node (o189 P) .nil .nil) (.node (o253 P) .nil .nil))))))) (.node (o2v1 P) (.node (boot_o_4 P) (.node (boot_o_8 P) (.node (o16 P) (.node (o32 P) (.node (o64 P) (.node (o128 P) (.node (o256 P) .nil .nil) .nil) (.node (o192 P) .nil .nil)) (.node (o96 P) (.node (o160 P) (.node (o288 P) .nil .nil) .nil) (.node (o224 P) .nil .nil))) (.node (o48 P) (.node (o80 P) (.node (o144 P) (.node (o272 P) .nil .nil) .nil) (.node (o208 P) .nil .nil)) (.node (o112 P) (.node (o176 P) .nil .nil) (.node (o240 P) .nil .nil)))) (.node (o24 P) (.node (o40 P) (.node (o72 P) (.node (o136 P) (.node (o264 P) .nil .nil) .nil) (.node (o200 P) .nil .nil)) (.node (o104 P) (.node (o168 P) .nil .nil) (.node (o232 P) .nil .nil))) (.node (o56 P) (.node (o88 P) (.node (o152 P) (.node (o280 P) .nil .nil) .nil) (.node (o216 P) .nil .nil)) (.node (o120 P) (.node (o184 P) .nil .nil) (.node (o248 P) .nil .nil))))) (.node (o12v3 P) (.node (o20 P) (.node (o36 P) (.node (o68 P) (.node (o132 P) (.node (o260 P) .nil .nil) .nil) (.node (o196 P) .nil .nil)) (.node (o100 P) (.node (o164 P) .nil .nil) (.node (o228 P) .nil .nil))) (.node (o52 P) (.node (o84 P) (.node (o148 P) (.node (o276 P) .nil .nil) .nil) (.node (o212 P) .nil .nil)) (.node (o116 P) (.node (o180 P) .nil .nil) (.node (o244 P) .nil .nil)))) (.node (o28 P) (.node (o44 P) (.node (o76 P) (.node (o140 P) (.node (o268 P) .nil .nil) .nil) (.node (o204 P) .nil .nil)) (.node (o108 P) (.node (o172 P) .nil .nil) (.node (o236 P) .nil .nil))) (.node (o60 P) (.node (o92 P) (.node (o156 P) (.node (o284 P) .nil .nil) .nil) (.node (o220 P) .nil .nil)) (.node (o124 P) (.node (o188 P) .nil .nil) (.node (o252 P) .nil .nil)))))) (.node (boot_o_6 P) (.node (boot_o_10 P) (.node (o18 P) (.node (o34 P) (.node (o66 P) (.node (o130 P) (.node (o258 P) .nil .nil) .nil) (.node (o194 P) .nil .nil)) (.node (o98 P) (.node (o162 P) (.node (o290 P) .nil .nil) .nil) (.node (o226 P) .nil .nil))) (.node (o50 P) (.node (o82 P) (.node (o146 P) (.node (o274 P) .nil .nil) .nil) (.node (o210 P) .nil .nil)) (.node (o114 P) (.node (o178 P) .nil .nil) (.node (o242 P) .nil .nil)))) (.node (o26 P) (.node (o42 P) (.node (o74 P) (.node (o138 P) (.node (o266 P) .nil .nil) .nil) (.node (o202 P) .nil .nil)) (.node (o106 P) (.node (o170 P) .nil .nil) (.node (o234 P) .nil .nil))) (.node (o58 P) (.node (o90 P) (.node (o154 P) (.node (o282 P) .nil .nil) .nil) (.node (o218 P) .nil .nil)) (.node (o122 P) (.node (o186 P) .nil .nil) (.node (o250 P) .nil .nil))))) (.node (o14 P) (.node (o22 P) (.node (o38 P) (.node (o70 P) (.node (o134 P) (.node (o262 P) .nil .nil) .nil) (.node (o198 P) .nil .nil)) (.node (o102 P) (.node (o166 P) .nil .nil) (.node (o230 P) .nil .nil))) (.node (o54 P) (.node (o86 P) (.node (o150 P) (.node (o278 P) .nil .nil) .nil) (.node (o214 P) .nil .nil)) (.node (o118 P) (.node (o182 P) .nil .nil) (.node (o246 P) .nil .nil)))) (.node (o30 P) (.node (o46 P) (.node (o78 P) (.node (o142 P) (.node (o270 P) .nil .nil) .nil) (.node (o206 P) .nil .nil)) (.node (o110 P) (.node (o174 P) .nil .nil) (.node (o238 P) .nil .nil))) (.node (o62 P) (.node (o94 P) (.node (o158 P) (.node (o286 P) .nil .nil) .nil) (.node (o222 P) .nil .nil)) (.node (o126 P) (.node (o190 P) .nil .nil) (.node (o254 P) .nil .nil))))))))
noncomputable def o3v4 (P : Params) : Obj := { cls := .type "dict", data := .dict #[ke P "__name__" 165 (vs "law_no0381_01" 699), ke P "__doc__" 166 (.none), ke P "__package__" 167 (.none), ke P "__loader__" 168 (.builtin "__main__.__loader__#opaque"), ke P "__spec__" 169 (.none), ke P "__annotations__" 170 (.ref 6), ke P "__builtins__" 171 (.ref 4), ke P "__file__" 173 (vs "/claim/cut.py" 172), ke P "__cached__" 174 (.none), ke P "_wall" 193 (.ref 21), ke P "PostError" 235 (.ref 46), ke P "WordFault" 251 (.ref 59), ke P "MimeFault" 267 (.ref 71), ke P "MOST_FIGURES" 271 (.int 20 270), ke P "Cursor" 381 (.ref 155), ke P "lower_code" 388 (.ref 166), ke P "lower" 394 (.ref 171), ke P "lower_text" 400 (.ref 176), ke P "ASCII" 404 (vs "us-ascii" 403), ke P "LATIN" 406 (vs "iso-8859-1" 405), ke P "UTF8" 408 (vs "utf-8" 407), ke P "CHARSETS" 409 (.ref 177), ke P "UNKNOWN_SIGN" 412 (vs "�" 411), ke P "charset_names" 420 (.ref 184), ke P "charset_name" 427 (.ref 191), ke P "need_charset" 434 (.ref 198), ke P "follower_span" 441 (.ref 205), ke P "utf8_sign" 455 (.ref 212), ke P "sign_at" 464 (.ref 219), ke P "text_in" 476 (.ref 226), ke P "strict_text" 488 (.ref 233), ke P "guessed_text" 495 (.ref 240), ke P "MOST_DEPTH" 499 (.int 20 498), ke P "NEVER_ESCAPED" 503 (.ref 241), ke P "line_end" 511 (.ref 248), ke P "inside_at" 521 (.ref 255), ke P "closed_at" 534 (.ref 262), ke P "comment_at" 547 (.ref 269), ke P "WHITE" 554 (.ref 270), ke P "SEMICOLON" 556 (.int 59 555), ke P "EQUALS" 558 (.int 61 557), ke P "QUOTE" 560 (.int 34 559), ke P "BRACKET" 562 (.int 40 561), ke P "PER_CENT" 564 (.int 37 563), ke P "BARRED" 566 (.bytes #[40, 41, 60, 62, 64, 44, 59, 58, 92, 34, 47, 91, 93, 63, 61] 565), ke P "HEX_FIGURES" 568 (.bytes #[48, 49, 50, 51, 52, 53, 54, 55, 56, 57, 65, 66, 67, 68, 69, 70] 567), ke P "is_token_code" 575 (.ref 277), ke P "skip_between" 582 (.ref 284), ke P "take_token" 590 (.ref 291), ke P "is_worth_code" 597 (.ref 298), ke P "take_worth" 606 (.ref 305), ke P "small_word" 612 (.ref 310), ke P "take_pairs" 621 (.ref 317), ke P "part_number" 630 (.ref 324), ke P "part_of" 640 (.ref 331), ke P "hex_worth" 646 (.ref 336), ke P "percent_decoded" 656 (.ref 343), ke P "charset_cut" 662 (.ref 348), ke P "joined_worth" 674 (.ref 355), ke P "params_of" 689 (.ref 362), ke P "read_value" 698 (.ref 369), ke P "_law_pot" 706 (.ref 374), ke P "_law_draw" 717 (.ref 381), ke P "_law_signs" 723 (.ref 388), ke P "_law_charsets" 729 (.ref 395), ke P "_law_sign_octets" 738 (.ref 402), ke P "_law_percent" 749 (.ref 409), ke P "_law_quoted" 755 (.ref 414), ke P "_law_text" 767 (.ref 421), ke P "law" 773 (.ref 426)] 70 }
noncomputable def o12v4 (P : Params) : Obj := { cls := .none, data := .fields #[.int 1 0, .int 0 0, .ref 20, .int 5 0, .int 0 0, .ref 27, .int 14 0, .int 0 0, .ref 55, .int 16 0, .int 0 0, .ref 67, .int 20 0, .int 0 0, .ref 79, .int 64 0, .int 0 0, .ref 165, .int 66 0, .int 0 0, .ref 170, .int 68 0, .int 0 0, .ref 175, .int 76 0, .int 0 0, .ref 183, .int 85 0, .int 0 0, .ref 190, .int 87 0, .int 0 0, .ref 197, .int 90 0, .int 0 0, .ref 204, .int 98 0, .int 0 0, .ref 211, .int 112 0, .int 0 0, .ref 218, .int 118 0, .int 0 0, .ref 225, .int 127 0, .int 0 0, .ref 232, .int 138 0, .int 0 0, .ref 239, .int 146 0, .int 0 0, .ref 247, .int 150 0, .int 0 0, .ref 254, .int 163 0, .int 0 0, .ref 261, .int 172 0, .int 0 0, .ref 268, .int 196 0, .int 0 0, .ref 276, .int 198 0, .int 0 0, .ref 283, .int 206 0, .int 0 0, .ref 290, .int 213 0, .int 0 0, .ref 297, .int 215 0, .int 0 0, .ref 304, .int 225 0, .int 0 0, .ref 309, .int 227 0, .int 0 0, .ref 316, .int 243 0, .int 0 0, .ref 323, .int 252 0, .int 0 0, .ref 330, .int 261 0, .int 0 0, .ref 335, .int 266 0, .int 0 0, .ref 342, .int 274 0, .int 0 0, .ref 347, .int 279 0, .int 0 0, .ref 354, .int 290 0, .int 0 0, .ref 361, .int 308 0, .int 0 0, .ref 368, .int 314 0, .int 0 0, .ref 373, .int 320 0, .int 0 0, .ref 380, .int 331 0, .int 0 0, .ref 387, .int 333 0, .int 0 0, .ref 394, .int 335 0, .int 0 0, .ref 401, .int 346 0, .int 0 0, .ref 408, .int 355 0, .int 0 0, .ref 413, .int 357 0, .int 0 0, .ref 420, .int 370 0, .int 0 0, .ref 425] }
noncomputable def o292 (P : Params) : Obj := { cls := .type "tuple", data := .seq #[] 0 }
noncomputable def o293 (P : Params) : Obj := { cls := .none, data := .fields #[] }
noncomputable def o294 (P : Params) : Obj := { cls := .type "tuple", data := .seq #[vs "code" 594] 0 }
noncomputable def o295 (P : Params) : Obj := { cls := .type "tuple", data := .seq #[] 0 }
noncomputable def o296 (P : Params) : Obj := { cls := .none, data := .func (fnD (sA 45) "is_worth_code" 0 (.none) (.none) (.none)) }
noncomputable def o297 (P : Params) : Obj := { cls := .type "code", data := .fields #[vs "is_worth_code" 591, vs "is_worth_code" 592, vs "/claim/cut.py" 593, .int 213 0, .int 1 0, .int 0 0, .int 0 0, .int 3 0, .ref 292, .bool true, .int 181 0, .ref 293, .none, .ref 294, .ref 295, .ref 296, .int 595 0, .int 213 0, vs "/claim/cut.py" 596] }
noncomputable def o298 (P : Params) : Obj := { cls := .type "function", data := .func (fnD (sA 45) "is_worth_code" 3 (.none) (vs "postkeep.params" 548) (.ref 297)) }
noncomputable def o299 (P : Params) : Obj := { cls := .type "tuple", data := .seq #[] 0 }
noncomputable def o300 (P : Params) : Obj := { cls := .none, data := .fields #[] }
noncomputable def o301 (P : Params) : Obj := { cls := .type "tuple", data := .seq #[vs "cursor" 601, vs "worth" 602, vs "first" 603] 0 }
noncomputable def o302 (P : Params) : Obj := { cls := .type "tuple", data := .seq #[] 0 }
noncomputable def o303 (P : Params) : Obj := { cls := .none, data := .func (fnD (sA 46) "take_worth" 0 (.none) (.none) (.none)) }
noncomputable def o304 (P : Params) : Obj := { cls := .type "code", data := .fields #[vs "take_worth" 598, vs "take_worth" 599, vs "/claim/cut.py" 600, .int 215 0, .int 1 0, .int 0 0, .int 0 0, .int 3 0, .ref 299, .bool true, .int 181 0, .ref 300, .none, .ref 301, .ref 302, .ref 303, .int 604 0, .int 215 0, vs "/claim/cut.py" 605] }
noncomputable def o305 (P : Params) : Obj := { cls := .type "function", data := .func (fnD (sA 46) "take_worth" 3 (.none) (vs "postkeep.params" 548) (.ref 304)) }
noncomputable def o306 (P : Params) : Obj := { cls := .type "tuple", data := .seq #[] 0 }
noncomputable def o307 (P : Params) : Obj := { cls := .none, data := .fields #[] }
noncomputable def o308 (P : Params) : Obj := { cls := .none, data := .func (fnD (sA 47) "small_word" 0 (.none) (.none) (.none)) }
noncomputable def o309 (P : Params) : Obj := { cls := .type "code", data := .fields #[vs "small_word" 607, vs "small_word" 608, vs "/claim/cut.py" 609, .int 225 0, .int 1 0, .int 0 0, .int 0 0, .int 3 0, .ref 306, .bool true, .int 181 0, .ref 307, .none, .none, .none, .ref 308, .int 610 0, .int 225 0, vs "/claim/cut.py" 611] }
noncomputable def o310 (P : Params) : Obj := { cls := .type "function", data := .func (fnD (sA 47) "small_word" 3 (.none) (vs "postkeep.params" 548) (.ref 309)) }
noncomputable def o311 (P : Params) : Obj := { cls := .type "tuple", data := .seq #[] 0 }
noncomputable def o312 (P : Params) : Obj := { cls := .none, data := .fields #[] }
noncomputable def o313 (P : Params) : Obj := { cls := .type "tuple", data := .seq #[vs "cursor" 616, vs "pairs" 617, vs "name" 618] 0 }
noncomputable def o314 (P : Params) : Obj := { cls := .type "tuple", data := .seq #[] 0 }
noncomputable def o315 (P : Params) : Obj := { cls := .none, data := .func (fnD (sA 48) "take_pairs" 0 (.none) (.none) (.none)) }
noncomputable def o316 (P : Params) : Obj := { cls := .type "code", data := .fields #[vs "take_pairs" 613, vs "take_pairs" 614, vs "/claim/cut.py" 615, .int 227 0, .int 1 0, .int 0 0, .int 0 0, .int 3 0, .ref 311, .bool true, .int 181 0, .ref 312, .none, .ref 313, .ref 314, .ref 315, .int 619 0, .int 227 0, vs "/claim/cut.py" 620] }
noncomputable def o317 (P : Params) : Obj := { cls := .type "function", data := .func (fnD (sA 48) "take_pairs" 3 (.none) (vs "postkeep.params" 548) (.ref 316)) }
noncomputable def o318 (P : Params) : Obj := { cls := .type "tuple", data := .seq #[] 0 }
noncomputable def o319 (P : Params) : Obj := { cls := .none, data := .fields #[] }
noncomputable def o320 (P : Params) : Obj := { cls := .type "tuple", data := .seq #[vs "figures" 625, vs "number" 626, vs "sign" 627] 0 }
noncomputable def o321 (P : Params) : Obj := { cls := .type "tuple", data := .seq #[] 0 }
noncomputable def o322 (P : Params) : Obj := { cls := .none, data := .func (fnD (sA 49) "part_number" 0 (.none) (.none) (.none)) }
noncomputable def o323 (P : Params) : Obj := { cls := .type "code", data := .fields #[vs "part_number" 622, vs "part_number" 623, vs "/claim/cut.py" 624, .int 243 0, .int 1 0, .int 0 0, .int 0 0, .int 3 0, .ref 318, .bool true, .int 181 0, .ref 319, .none, .ref 320, .ref 321, .ref 322, .int 628 0, .int 243 0, vs "/claim/cut.py" 629] }
noncomputable def o324 (P : Params) : Obj := { cls := .type "function", data := .func (fnD (sA 49) "part_number" 3 (.none) (vs "postkeep.params" 548) (.ref 323)) }
noncomputable def o325 (P : Params) : Obj := { cls := .type "tuple", data := .seq #[] 0 }
noncomputable def o326 (P : Params) : Obj := { cls := .none, data := .fields #[] }
noncomputable def o327 (P : Params) : Obj := { cls := .type "tuple", data := .seq #[vs "name" 634, vs "spot" 635, vs "is_encoded" 636, vs "number" 637] 0 }
noncomputable def o328 (P : Params) : Obj := { cls := .type "tuple", data := .seq #[] 0 }
noncomputable def o329 (P : Params) : Obj := { cls := .none, data := .func (fnD (sA 50) "part_of" 0 (.none) (.none) (.none)) }
noncomputable def o330 (P : Params) : Obj := { cls := .type "code", data := .fields #[vs "part_of" 631, vs "part_of" 632, vs "/claim/cut.py" 633, .int 252 0, .int 1 0, .int 0 0, .int 0 0, .int 3 0, .ref 325, .bool true, .int 181 0, .ref 326, .none, .ref 327, .ref 328, .ref 329, .int 638 0, .int 252 0, vs "/claim/cut.py" 639] }
noncomputable def o331 (P : Params) : Obj := { cls := .type "function", data := .func (fnD (sA 50) "part_of" 3 (.none) (vs "postkeep.params" 548) (.ref 330)) }
noncomputable def o332 (P : Params) : Obj := { cls := .type "tuple", data := .seq #[] 0 }
noncomputable def o333 (P : Params) : Obj := { cls := .none, data := .fields #[] }
noncomputable def o334 (P : Params) : Obj := { cls := .none, data := .func (fnD (sA 51) "hex_worth" 0 (.none) (.none) (.none)) }
noncomputable def o335 (P : Params) : Obj := { cls := .type "code", data := .fields #[vs "hex_worth" 641, vs "hex_worth" 642, vs "/claim/cut.py" 643, .int 261 0, .int 1 0, .int 0 0, .int 0 0, .int 3 0, .ref 332, .bool true, .int 181 0, .ref 333, .none, .none, .none, .ref 334, .int 644 0, .int 261 0, vs "/claim/cut.py" 645] }
noncomputable def o336 (P : Params) : Obj := { cls := .type "function", data := .func (fnD (sA 51) "hex_worth" 3 (.none) (vs "postkeep.params" 548) (.ref 335)) }
noncomputable def o337 (P : Params) : Obj := { cls := .type "tuple", data := .seq #[] 0 }
noncomputable def o338 (P : Params) : Obj := { cls := .none, data := .fields #[] }
noncomputable def o339 (P : Params) : Obj := { cls := .type "tuple", data := .seq #[vs "octets" 650, vs "found" 651, vs "at" 652, vs "worth" 653] 0 }
noncomputable def o340 (P : Params) : Obj := { cls := .type "tuple", data := .seq #[] 0 }
noncomputable def o341 (P : Params) : Obj := { cls := .none, data := .func (fnD (sA 52) "percent_decoded" 0 (.none) (.none) (.none)) }
noncomputable def o342 (P : Params) : Obj := { cls := .type "code", data := .fields #[vs "percent_decoded" 647, vs "percent_decoded" 648, vs "/claim/cut.py" 649, .int 266 0, .int 1 0, .int 0 0, .int 0 0, .int 3 0, .ref 337, .bool true, .int 181 0, .ref 338, .none, .ref 339, .ref 340, .ref 341, .int 654 0, .int 266 0, vs "/claim/cut.py" 655] }
noncomputable def o343 (P : Params) : Obj := { cls := .type "function", data := .func (fnD (sA 52) "percent_decoded" 3 (.none) (vs "postkeep.params" 548) (.ref 342)) }
noncomputable def o344 (P : Params) : Obj := { cls := .type "tuple", data := .seq #[] 0 }
noncomputable def o345 (P : Params) : Obj := { cls := .none, data := .fields #[] }
noncomputable def o346 (P : Params) : Obj := { cls := .none, data := .func (fnD (sA 53) "charset_cut" 0 (.none) (.none) (.none)) }
noncomputable def o347 (P : Params) : Obj := { cls := .type "code", data := .fields #[vs "charset_cut" 657, vs "charset_cut" 658, vs "/claim/cut.py" 659, .int 274 0, .int 1 0, .int 0 0, .int 0 0, .int 3 0, .ref 344, .bool true, .int 181 0, .ref 345, .none, .none, .none, .ref 346, .int 660 0, .int 274 0, vs "/claim/cut.py" 661] }
noncomputable def o348 (P : Params) : Obj := { cls := .type "function", data := .func (fnD (sA 53) "charset_cut" 3 (.none) (vs "postkeep.params" 548) (.ref 347)) }
noncomputable def o349 (P : Params) : Obj := { cls := .type "tuple", data := .seq #[] 0 }
noncomputable def o350 (P : Params) : Obj := { cls := .none, data := .fields #[] }
noncomputable def o351 (P : Params) : Obj := { cls := .type "tuple", data := .seq #[vs "parts" 666, vs "charset" 667, vs "octets" 668, vs "number" 669, vs "is_encoded" 670, vs "worth" 671] 0 }
noncomputable def o352 (P : Params) : Obj := { cls := .type "tuple", data := .seq #[] 0 }
noncomputable def o353 (P : Params) : Obj := { cls := .none, data := .func (fnD (sA 54) "joined_worth" 0 (.none) (.none) (.none)) }
noncomputable def o354 (P : Params) : Obj := { cls := .type "code", data := .fields #[vs "joined_worth" 663, vs "joined_worth" 664, vs "/claim/cut.py" 665, .int 279 0, .int 1 0, .int 0 0, .int 0 0, .int 3 0, .ref 349, .bool true, .int 181 0, .ref 350, .none, .ref 351, .ref 352, .ref 353, .int 672 0, .int 279 0, vs "/claim/cut.py" 673] }
noncomputable def o355 (P : Params) : Obj := { cls := .type "function", data := .func (fnD (sA 54) "joined_worth" 3 (.none) (vs "postkeep.params" 548) (.ref 354)) }
noncomputable def o356 (P : Params) : Obj := { cls := .type "tuple", data := .seq #[] 0 }
noncomputable def o357 (P : Params) : Obj := { cls := .none, data := .fields #[] }
noncomputable def o358 (P : Params) : Obj := { cls := .type "tuple", data := .seq #[vs "pairs" 678, vs "plain" 679, vs "parted" 680, vs "name" 681, vs "worth" 682, vs "part" 683, vs "base" 684, vs "number" 685, vs "is_encoded" 686] 0 }
noncomputable def o359 (P : Params) : Obj := { cls := .type "tuple", data := .seq #[] 0 }
noncomputable def o360 (P : Params) : Obj := { cls := .none, data := .func (fnD (sA 55) "params_of" 0 (.none) (.none) (.none)) }
noncomputable def o361 (P : Params) : Obj := { cls := .type "code", data := .fields #[vs "params_of" 675, vs "params_of" 676, vs "/claim/cut.py" 677, .int 290 0, .int 1 0, .int 0 0, .int 0 0, .int 3 0, .ref 356, .bool true, .int 181 0, .ref 357, .none, .ref 358, .ref 359, .ref 360, .int 687 0, .int 290 0, vs "/claim/cut.py" 688] }
noncomputable def o362 (P : Params) : Obj := { cls := .type "function", data := .func (fnD (sA 55) "params_of" 3 (.none) (vs "postkeep.params" 548) (.ref 361)) }
noncomputable def o363 (P : Params) : Obj := { cls := .type "tuple", data := .seq #[] 0 }
noncomputable def o364 (P : Params) : Obj := { cls := .none, data := .fields #[] }
noncomputable def o365 (P : Params) : Obj := { cls := .type "tuple", data := .seq #[vs "octets" 693, vs "cursor" 694, vs "word" 695] 0 }
noncomputable def o366 (P : Params) : Obj := { cls := .type "tuple", data := .seq #[] 0 }
noncomputable def o367 (P : Params) : Obj := { cls := .none, data := .func (fnD (sA 56) "read_value" 0 (.none) (.none) (.none)) }
noncomputable def o368 (P : Params) : Obj := { cls := .type "code", data := .fields #[vs "read_value" 690, vs "read_value" 691, vs "/claim/cut.py" 692, .int 308 0, .int 1 0, .int 0 0, .int 0 0, .int 3 0, .ref 363, .bool true, .int 181 0, .ref 364, .none, .ref 365, .ref 366, .ref 367, .int 696 0, .int 308 0, vs "/claim/cut.py" 697] }
noncomputable def o369 (P : Params) : Obj := { cls := .type "function", data := .func (fnD (sA 56) "read_value" 3 (.none) (vs "postkeep.params" 548) (.ref 368)) }
noncomputable def o370 (P : Params) : Obj := { cls := .type "tuple", data := .seq #[] 0 }
noncomputable def o371 (P : Params) : Obj := { cls := .none, data := .fields #[] }
noncomputable def o372 (P : Params) : Obj := { cls := .none, data := .func (fnD (sA 58) "_law_pot" 0 (.none) (.none) (.none)) }
noncomputable def o373 (P : Params) : Obj := { cls := .type "code", data := .fields #[vs "_law_pot" 701, vs "_law_pot" 702, vs "/claim/cut.py" 703, .int 314 0, .int 1 0, .int 0 0, .int 0 0, .int 3 0, .ref 370, .bool true, .int 181 0, .ref 371, .none, .none, .none, .ref 372, .int 704 0, .int 314 0, vs "/claim/cut.py" 705] }
noncomputable def o374 (P : Params) : Obj := { cls := .type "function", data := .func (fnD (sA 58) "_law_pot" 3 (.none) (vs "law_no0381_01" 699) (.ref 373)) }
noncomputable def o375 (P : Params) : Obj := { cls := .type "tuple", data := .seq #[] 0 }
noncomputable def o376 (P : Params) : Obj := { cls := .none, data := .fields #[] }
noncomputable def o377 (P : Params) : Obj := { cls := .type "tuple", data := .seq #[vs "pot" 710, vs "limit" 711, vs "place" 712, vs "spot" 713, vs "here" 714] 0 }
noncomputable def o378 (P : Params) : Obj := { cls := .type "tuple", data := .seq #[] 0 }
noncomputable def o379 (P : Params) : Obj := { cls := .none, data := .func (fnD (sA 59) "_law_draw" 0 (.none) (.none) (.none)) }
noncomputable def o380 (P : Params) : Obj := { cls := .type "code", data := .fields #[vs "_law_draw" 707, vs "_law_draw" 708, vs "/claim/cut.py" 709, .int 320 0, .int 2 0, .int 0 0, .int 0 0, .int 3 0, .ref 375, .bool true, .int 181 0, .ref 376, .none, .ref 377, .ref 378, .ref 379, .int 715 0, .int 320 0, vs "/claim/cut.py" 716] }
noncomputable def o381 (P : Params) : Obj := { cls := .type "function", data := .func (fnD (sA 59) "_law_draw" 3 (.none) (vs "law_no0381_01" 699) (.ref 380)) }
noncomputable def o382 (P : Params) : Obj := { cls := .type "tuple", data := .seq #[] 0 }
noncomputable def o383 (P : Params) : Obj := { cls := .none, data := .fields #[] }
noncomputable def o384 (P : Params) : Obj := { cls := .type "tuple", data := .seq #[] 0 }
noncomputable def o385 (P : Params) : Obj := { cls := .type "tuple", data := .seq #[] 0 }
noncomputable def o386 (P : Params) : Obj := { cls := .none, data := .func (fnD (sA 60) "_law_signs" 0 (.none) (.none) (.none)) }
noncomputable def o387 (P : Params) : Obj := { cls := .type "code", data := .fields #[vs "_law_signs" 718, vs "_law_signs" 719, vs "/claim/cut.py" 720, .int 331 0, .int 0 0, .int 0 0, .int 0 0, .int 3 0, .ref 382, .bool true, .int 181 0, .ref 383, .none, .ref 384, .ref 385, .ref 386, .int 721 0, .int 331 0, vs "/claim/cut.py" 722] }
noncomputable def o388 (P : Params) : Obj := { cls := .type "function", data := .func (fnD (sA 60) "_law_signs" 3 (.none) (vs "law_no0381_01" 699) (.ref 387)) }
noncomputable def o389 (P : Params) : Obj := { cls := .type "tuple", data := .seq #[] 0 }
noncomputable def o390 (P : Params) : Obj := { cls := .none, data := .fields #[] }
noncomputable def o391 (P : Params) : Obj := { cls := .type "tuple", data := .seq #[] 0 }
noncomputable def o392 (P : Params) : Obj := { cls := .type "tuple", data := .seq #[] 0 }
noncomputable def o393 (P : Params) : Obj := { cls := .none, data := .func (fnD (sA 61) "_law_charsets" 0 (.none) (.none) (.none)) }
noncomputable def o394 (P : Params) : Obj := { cls := .type "code", data := .fields #[vs "_law_charsets" 724, vs "_law_charsets" 725, vs "/claim/cut.py" 726, .int 333 0, .int 0 0, .int 0 0, .int 0 0, .int 3 0, .ref 389, .bool true, .int 181 0, .ref 390, .none, .ref 391, .ref 392, .ref 393, .int 727 0, .int 333 0, vs "/claim/cut.py" 728] }
noncomputable def o395 (P : Params) : Obj := { cls := .type "function", data := .func (fnD (sA 61) "_law_charsets" 3 (.none) (vs "law_no0381_01" 699) (.ref 394)) }
noncomputable def o396 (P : Params) : Obj := { cls := .type "tuple", data := .seq #[] 0 }
noncomputable def o397 (P : Params) : Obj := { cls := .none, data := .fields #[] }
noncomputable def o398 (P : Params) : Obj := { cls := .type "tuple", data := .seq #[vs "sign" 733, vs "charset" 734, vs "code" 735] 0 }
noncomputable def o399 (P : Params) : Obj := { cls := .type "tuple", data := .seq #[] 0 }
noncomputable def o400 (P : Params) : Obj := { cls := .none, data := .func (fnD (sA 62) "_law_sign_octets" 0 (.none) (.none) (.none)) }
noncomputable def o401 (P : Params) : Obj := { cls := .type "code", data := .fields #[vs "_law_sign_octets" 730, vs "_law_sign_octets" 731, vs "/claim/cut.py" 732, .int 335 0, .int 2 0, .int 0 0, .int 0 0, .int 3 0, .ref 396, .bool true, .int 181 0, .ref 397, .none, .ref 398, .ref 399, .ref 400, .int 736 0, .int 335 0, vs "/claim/cut.py" 737] }
noncomputable def o402 (P : Params) : Obj := { cls := .type "function", data := .func (fnD (sA 62) "_law_sign_octets" 3 (.none) (vs "law_no0381_01" 699) (.ref 401)) }
noncomputable def o403 (P : Params) : Obj := { cls := .type "tuple", data := .seq #[] 0 }
noncomputable def o404 (P : Params) : Obj := { cls := .none, data := .fields #[] }
noncomputable def o405 (P : Params) : Obj := { cls := .type "tuple", data := .seq #[vs "pot" 742, vs "octets" 743, vs "found" 744, vs "code" 745, vs "figures" 746] 0 }
noncomputable def o406 (P : Params) : Obj := { cls := .type "tuple", data := .seq #[] 0 }
noncomputable def o407 (P : Params) : Obj := { cls := .none, data := .func (fnD (sA 63) "_law_percent" 0 (.none) (.none) (.none)) }
noncomputable def o408 (P : Params) : Obj := { cls := .type "code", data := .fields #[vs "_law_percent" 739, vs "_law_percent" 740, vs "/claim/cut.py" 741, .int 346 0, .int 2 0, .int 0 0, .int 0 0, .int 3 0, .ref 403, .bool true, .int 181 0, .ref 404, .none, .ref 405, .ref 406, .ref 407, .int 747 0, .int 346 0, vs "/claim/cut.py" 748] }
noncomputable def o409 (P : Params) : Obj := { cls := .type "function", data := .func (fnD (sA 63) "_law_percent" 3 (.none) (vs "law_no0381_01" 699) (.ref 408)) }
noncomputable def o410 (P : Params) : Obj := { cls := .type "tuple", data := .seq #[] 0 }
noncomputable def o411 (P : Params) : Obj := { cls := .none, data := .fields #[] }
noncomputable def o412 (P : Params) : Obj := { cls := .none, data := .func (fnD (sA 64) "_law_quoted" 0 (.none) (.none) (.none)) }
noncomputable def o413 (P : Params) : Obj := { cls := .type "code", data := .fields #[vs "_law_quoted" 750, vs "_law_quoted" 751, vs "/claim/cut.py" 752, .int 355 0, .int 1 0, .int 0 0, .int 0 0, .int 3 0, .ref 410, .bool true, .int 181 0, .ref 411, .none, .none, .none, .ref 412, .int 753 0, .int 355 0, vs "/claim/cut.py" 754] }
noncomputable def o414 (P : Params) : Obj := { cls := .type "function", data := .func (fnD (sA 64) "_law_quoted" 3 (.none) (vs "law_no0381_01" 699) (.ref 413)) }
noncomputable def o415 (P : Params) : Obj := { cls := .type "tuple", data := .seq #[] 0 }
noncomputable def o416 (P : Params) : Obj := { cls := .none, data := .fields #[] }
noncomputable def o417 (P : Params) : Obj := { cls := .type "tuple", data := .seq #[vs "octets" 759, vs "charset" 760, vs "found" 761, vs "at" 762, vs "length" 763, vs "code" 764] 0 }
noncomputable def o418 (P : Params) : Obj := { cls := .type "tuple", data := .seq #[] 0 }
noncomputable def o419 (P : Params) : Obj := { cls := .none, data := .func (fnD (sA 65) "_law_text" 0 (.none) (.none) (.none)) }
noncomputable def o420 (P : Params) : Obj := { cls := .type "code", data := .fields #[vs "_law_text" 756, vs "_law_text" 757, vs "/claim/cut.py" 758, .int 357 0, .int 2 0, .int 0 0, .int 0 0, .int 3 0, .ref 415, .bool true, .int 181 0, .ref 416, .none, .ref 417, .ref 418, .ref 419, .int 765 0, .int 357 0, vs "/claim/cut.py" 766] }
noncomputable def o421 (P : Params) : Obj := { cls := .type "function", data := .func (fnD (sA 65) "_law_text" 3 (.none) (vs "law_no0381_01" 699) (.ref 420)) }
noncomputable def o422 (P : Params) : Obj := { cls := .type "tuple", data := .seq #[] 0 }
noncomputable def o423 (P : Params) : Obj := { cls := .none, data := .fields #[] }
noncomputable def o424 (P : Params) : Obj := { cls := .none, data := .func (fnD (sA 66) "law" 0 (.none) (.none) (.none)) }
noncomputable def o425 (P : Params) : Obj := { cls := .type "code", data := .fields #[vs "law" 768, vs "law" 769, vs "/claim/cut.py" 770, .int 370 0, .int 1 0, .int 0 0, .int 0 0, .int 3 0, .ref 422, .bool true, .int 181 0, .ref 423, .none, .none, .none, .ref 424, .int 771 0, .int 370 0, vs "/claim/cut.py" 772] }
noncomputable def o426 (P : Params) : Obj := { cls := .type "function", data := .func (fnD (sA 66) "law" 3 (.none) (vs "law_no0381_01" 699) (.ref 425)) }
noncomputable def t4 (P : Params) : BT := (.node (boot_o_0 P) (.node (boot_o_1 P) (.node (o3v4 P) (.node (boot_o_7 P) (.node (o15 P) (.node (o31 P) (.node (o63 P) (.node (o127 P) (.node (o255 P) .nil .nil) (.node (o383 P) .nil .nil)) (.node (o191 P) (.node (o319 P) .nil .nil) .nil)) (.node (o95 P) (.node (o159 P) (.node (o287 P) .nil .nil) (.node (o415 P) .nil .nil)) (.node (o223 P) (.node (o351 P) .nil .nil) .nil))) (.node (o47 P) (.node (o79 P) (.node (o143 P) (.node (o271 P) .nil .nil) (.node (o399 P) .nil .nil)) (.node (o207 P) (.node (o335 P) .nil .nil) .nil)) (.node (o111 P) (.node (o175 P) (.node (o303 P) .nil .nil) .nil) (.node (o239 P) (.node (o367 P) .nil .nil) .nil)))) (.node (o23 P) (.node (o39 P) (.node (o71 P) (.node (o135 P) (.node (o263 P) .nil .nil) (.node (o391 P) .nil .nil)) (.node (o199 P) (.node (o327 P) .nil .nil) .nil)) (.node (o103 P) (.node (o167 P) (.node (o295 P) .nil .nil) (.node (o423 P) .nil .nil)) (.node (o231 P) (.node (o359 P) .nil .nil) .nil))) (.node (o55 P) (.node (o87 P) (.node (o151 P) (.node (o279 P) .nil .nil) (.node (o407 P) .nil .nil)) (.node (o215 P) (.node (o343 P) .nil .nil) .nil)) (.node (o119 P) (.node (o183 P) (.node (o311 P) .nil .nil) .nil) (.node (o247 P) (.node (o375 P) .nil .nil) .nil))))) (.node (o11 P) (.node (o19 P) (.node (o35 P) (.node (o67 P) (.node (o131 P) (.node (o259 P) .nil .nil) (.node (o387 P) .nil .nil)) (.node (o195 P) (.node (o323 P) .nil .nil) .nil)) (.node (o99 P) (.node (o163 P) (.node (o291 P) .nil .nil) (.node (o419 P) .nil .nil)) (.node (o227 P) (.node (o355 P) .nil .nil) .nil))) (.node (o51 P) (.node (o83 P) (.node (o147 P) (.node (o275 P) .nil .nil) (.node (o403 P) .nil .nil)) (.node (o211 P) (.node (o339 P) .nil .nil) .nil)) (.node (o115 P) (.node (o179 P) (.node (o307 P) .nil .nil) .nil) (.node (o243 P) (.node (o371 P) .nil .nil) .nil)))) (.node (o27 P) (.node (o43 P) (.node (o75 P) (.node (o139 P) (.node (o267 P) .nil .nil) (.node (o395 P) .nil .nil)) (.node (o203 P) (.node (o331 P) .nil .nil) .nil)) (.node (o107 P) (.node (o171 P) (.node (o299 P) .nil .nil) .nil) (.node (o235 P) (.node (o363 P) .nil .nil) .nil))) (.node (o59 P) (.node (o91 P) (.node (o155 P) (.node (o283 P) .nil .nil) (.node (o411 P) .nil .nil)) (.node (o219 P) (.node (o347 P) .nil .nil) .nil)) (.node (o123 P) (.node (o187 P) (.node (o315 P) .nil .nil) .nil) (.node (o251 P) (.node (o379 P) .nil .nil) .nil)))))) (.node (boot_o_5 P) (.node (boot_o_9 P) (.node (o17 P) (.node (o33 P) (.node (o65 P) (.node (o129 P) (.node (o257 P) .nil .nil) (.node (o385 P) .nil .nil)) (.node (o193 P) (.node (o321 P) .nil .nil) .nil)) (.node (o97 P) (.node (o161 P) (.node (o289 P) .nil .nil) (.node (o417 P) .nil .nil)) (.node (o225 P) (.node (o353 P) .nil .nil) .nil))) (.node (o49 P) (.node (o81 P) (.node (o145 P) (.node (o273 P) .nil .nil) (.node (o401 P) .nil .nil)) (.node (o209 P) (.node (o337 P) .nil .nil) .nil)) (.node (o113 P) (.node (o177 P) (.node (o305 P) .nil .nil) .nil) (.node (o241 P) (.node (o369 P) .nil .nil) .nil)))) (.node (o25 P) (.node (o41 P) (.node (o73 P) (.node (o137 P) (.node (o265 P) .nil .nil) (.node (o393 P) .nil .nil)) (.node (o201 P) (.node (o329 P) .nil .nil) .nil)) (.node (o105 P) (.node (o169 P) (.node (o297 P) .nil .nil) (.node (o425 P) .nil .nil)) (.node (o233 P) (.node (o361 P) .nil .nil) .nil))) (.node (o57 P) (.node (o89 P) (.node (o153 P) (.node (o281 P) .nil .nil) (.node (o409 P) .nil .nil)) (.node (o217 P) (.node (o345 P) .nil .nil) .nil)) (.node (o121 P) (.node (o185 P) (.node (o313 P) .nil .nil) .nil) (.node (o249 P) (.node (o377 P) .nil .nil) .nil))))) (.node (o13 P) (.node (o21 P) (.node (o37 P) (.node (o69 P) (.node (o133 P) (.node (o261 P) .nil .nil) (.node (o389 P) .nil .nil)) (.node (o197 P) (.node (o325 P) .nil .nil) .nil)) (.node (o101 P) (.node (o165 P) (.node (o293 P) .nil .nil) (.node (o421 P) .nil .nil)) (.node (o229 P) (.node (o357 P) .nil .nil) .nil))) (.node (o53 P) (.node (o85 P) (.node (o149 P) (.node (o277 P) .nil .nil) (.node (o405 P) .nil .nil)) (.node (o213 P) (.node (o341 P) .nil .nil) .nil)) (.node (o117 P) (.node (o181 P) (.node (o309 P) .nil .nil) .nil) (.node (o245 P) (.node (o373 P) .nil .nil) .nil)))) (.node (o29 P) (.node (o45 P) (.node (o77 P) (.node (o141 P) (.node (o269 P) .nil .nil) (.node (o397 P) .nil .nil)) (.node (o205 P) (.node (o333 P) .nil .nil) .nil)) (.node (o109 P) (.node (o173 P) (.node (o301 P) .nil .nil) .nil) (.node (o237 P) (.node (o365 P) .nil .nil) .nil))) (.node (o61 P) (.node (o93 P) (.node (o157 P) (.node (o285 P) .nil .nil) (.node (o413 P) .nil .nil)) (.node (o221 P) (.node (o349 P) .nil .nil) .nil)) (.node (o125 P) (.node (o189 P) (.node (o317 P) .nil .nil) .nil) (.node (o253 P) (.node (o381 P) .nil .nil) .nil))))))) (.node (o2v1 P) (.node (boot_o_4 P) (.node (boot_o_8 P) (.node (o16 P) (.node (o32 P) (.node (o64 P) (.node (o128 P) (.node (o256 P) .nil .nil) (.node (o384 P) .nil .nil)) (.node (o192 P) (.node (o320 P) .nil .nil) .nil)) (.node (o96 P) (.node (o160 P) (.node (o288 P) .nil .nil) (.node (o416 P) .nil .nil)) (.node (o224 P) (.node (o352 P) .nil .nil) .nil))) (.node (o48 P) (.node (o80 P) (.node (o144 P) (.node (o272 P) .nil .nil) (.node (o400 P) .nil .nil)) (.node (o208 P) (.node (o336 P) .nil .nil) .nil)) (.node (o112 P) (.node (o176 P) (.node (o304 P) .nil .nil) .nil) (.node (o240 P) (.node (o368 P) .nil .nil) .nil)))) (.node (o24 P) (.node (o40 P) (.node (o72 P) (.node (o136 P) (.node (o264 P) .nil .nil) (.node (o392 P) .nil .nil)) (.node (o200 P) (.node (o328 P) .nil .nil) .nil)) (.node (o104 P) (.node (o168 P) (.node (o296 P) .nil .nil) (.node (o424 P) .nil .nil)) (.node (o232 P) (.node (o360 P) .nil .nil) .nil))) (.node (o56 P) (.node (o88 P) (.node (o152 P) (.node (o280 P) .nil .nil) (.node (o408 P) .nil .nil)) (.node (o216 P) (.node (o344 P) .nil .nil) .nil)) (.node (o120 P) (.node (o184 P) (.node (o312 P) .nil .nil) .nil) (.node (o248 P) (.node (o376 P) .nil .nil) .nil))))) (.node (o12v4 P) (.node (o20 P) (.node (o36 P) (.node (o68 P) (.node (o132 P) (.node (o260 P) .nil .nil) (.node (o388 P) .nil .nil)) (.node (o196 P) (.node (o324 P) .nil .nil) .nil)) (.node (o100 P) (.node (o164 P) (.node (o292 P) .nil .nil) (.node (o420 P) .nil .nil)) (.node (o228 P) (.node (o356 P) .nil .nil) .nil))) (.node (o52 P) (.node (o84 P) (.node (o148 P) (.node (o276 P) .nil .nil) (.node (o404 P) .nil .nil)) (.node (o212 P) (.node (o340 P) .nil .nil) .nil)) (.node (o116 P) (.node (o180 P) (.node (o308 P) .nil .nil) .nil) (.node (o244 P) (.node (o372 P) .nil .nil) .nil)))) (.node (o28 P) (.node (o44 P) (.node (o76 P) (.node (o140 P) (.node (o268 P) .nil .nil) (.node (o396 P) .nil .nil)) (.node (o204 P) (.node (o332 P) .nil .nil) .nil)) (.node (o108 P) (.node (o172 P) (.node (o300 P) .nil .nil) .nil) (.node (o236 P) (.node (o364 P) .nil .nil) .nil))) (.node (o60 P) (.node (o92 P) (.node (o156 P) (.node (o284 P) .nil .nil) (.node (o412 P) .nil .nil)) (.node (o220 P) (.node (o348 P) .nil .nil) .nil)) (.node (o124 P) (.node (o188 P) (.node (o316 P) .nil .nil) .nil) (.node (o252 P) (.node (o380 P) .nil .nil) .nil)))))) (.node (boot_o_6 P) (.node (boot_o_10 P) (.node (o18 P) (.node (o34 P) (.node (o66 P) (.node (o130 P) (.node (o258 P) .nil .nil) (.node (o386 P) .nil .nil)) (.node (o194 P) (.node (o322 P) .nil .nil) .nil)) (.node (o98 P) (.node (o162 P) (.node (o290 P) .nil .nil) (.node (o418 P) .nil .nil)) (.node (o226 P) (.node (o354 P) .nil .nil) .nil))) (.node (o50 P) (.node (o82 P) (.node (o146 P) (.node (o274 P) .nil .nil) (.node (o402 P) .nil .nil)) (.node (o210 P) (.node (o338 P) .nil .nil) .nil)) (.node (o114 P) (.node (o178 P) (.node (o306 P) .nil .nil) .nil) (.node (o242 P) (.node (o370 P) .nil .nil) .nil)))) (.node (o26 P) (.node (o42 P) (.node (o74 P) (.node (o138 P) (.node (o266 P) .nil .nil) (.node (o394 P) .nil .nil)) (.node (o202 P) (.node (o330 P) .nil .nil) .nil)) (.node (o106 P) (.node (o170 P) (.node (o298 P) .nil .nil) (.node (o426 P) .nil .nil)) (.node (o234 P) (.node (o362 P) .nil .nil) .nil))) (.node (o58 P) (.node (o90 P) (.node (o154 P) (.node (o282 P) .nil .nil) (.node (o410 P) .nil .nil)) (.node (o218 P) (.node (o346 P) .nil .nil) .nil)) (.node (o122 P) (.node (o186 P) (.node (o314 P) .nil .nil) .nil) (.node (o250 P) (.node (o378 P) .nil .nil) .nil))))) (.node (o14 P) (.node (o22 P) (.node (o38 P) (.node (o70 P) (.node (o134 P) (.node (o262 P) .nil .nil) (.node (o390 P) .nil .nil)) (.node (o198 P) (.node (o326 P) .nil .nil) .nil)) (.node (o102 P) (.node (o166 P) (.node (o294 P) .nil .nil) (.node (o422 P) .nil .nil)) (.node (o230 P) (.node (o358 P) .nil .nil) .nil))) (.node (o54 P) (.node (o86 P) (.node (o150 P) (.node (o278 P) .nil .nil) (.node (o406 P) .nil .nil)) (.node (o214 P) (.node (o342 P) .nil .nil) .nil)) (.node (o118 P) (.node (o182 P) (.node (o310 P) .nil .nil) .nil) (.node (o246 P) (.node (o374 P) .nil .nil) .nil)))) (.node (o30 P) (.node (o46 P) (.node (o78 P) (.node (o142 P) (.node (o270 P) .nil .nil) (.node (o398 P) .nil .nil)) (.node (o206 P) (.node (o334 P) .nil .nil) .nil)) (.node (o110 P) (.node (o174 P) (.node (o302 P) .nil .nil) .nil) (.node (o238 P) (.node (o366 P) .nil .nil) .nil))) (.node (o62 P) (.node (o94 P) (.node (o158 P) (.node (o286 P) .nil .nil) (.node (o414 P) .nil .nil)) (.node (o222 P) (.node (o350 P) .nil .nil) .nil)) (.node (o126 P) (.node (o190 P) (.node (o318 P) .nil .nil) .nil) (.node (o254 P) (.node (o382 P) .nil .nil) .nil))))))))
noncomputable def hF (P : Params) : Heap := ⟨⟨[boot_o_0 P, boot_o_1 P, o2v1 P, o3v4 P, boot_o_4 P, boot_o_5 P, boot_o_6 P, boot_o_7 P, boot_o_8 P, boot_o_9 P, boot_o_10 P, o11 P, o12v4 P, o13 P, o14 P, o15 P, o16 P, o17 P, o18 P, o19 P, o20 P, o21 P, o22 P, o23 P, o24 P, o25 P, o26 P, o27 P, o28 P, o29 P, o30 P, o31 P, o32 P, o33 P, o34 P, o35 P, o36 P, o37 P, o38 P, o39 P, o40 P, o41 P, o42 P, o43 P, o44 P, o45 P, o46 P, o47 P, o48 P, o49 P, o50 P, o51 P, o52 P, o53 P, o54 P, o55 P, o56 P, o57 P, o58 P, o59 P, o60 P, o61 P, o62 P, o63 P, o64 P, o65 P, o66 P, o67 P, o68 P, o69 P, o70 P, o71 P, o72 P, o73 P, o74 P, o75 P, o76 P, o77 P, o78 P, o79 P, o80 P, o81 P, o82 P, o83 P, o84 P, o85 P, o86 P, o87 P, o88 P, o89 P, o90 P, o91 P, o92 P, o93 P, o94 P, o95 P, o96 P, o97 P, o98 P, o99 P, o100 P, o101 P, o102 P, o103 P, o104 P, o105 P, o106 P, o107 P, o108 P, o109 P, o110 P, o111 P, o112 P, o113 P, o114 P, o115 P, o116 P, o117 P, o118 P, o119 P, o120 P, o121 P, o122 P, o123 P, o124 P, o125 P, o126 P, o127 P, o128 P, o129 P, o130 P, o131 P, o132 P, o133 P, o134 P, o135 P, o136 P, o137 P, o138 P, o139 P, o140 P, o141 P, o142 P, o143 P, o144 P, o145 P, o146 P, o147 P, o148 P, o149 P, o150 P, o151 P, o152 P, o153 P, o154 P, o155 P, o156 P, o157 P, o158 P, o159 P, o160 P, o161 P, o162 P, o163 P, o164 P, o165 P, o166 P, o167 P, o168 P, o169 P, o170 P, o171 P, o172 P, o173 P, o174 P, o175 P, o176 P, o177 P, o178 P, o179 P, o180 P, o181 P, o182 P, o183 P, o184 P, o185 P, o186 P, o187 P, o188 P, o189 P, o190 P, o191 P, o192 P, o193 P, o194 P, o195 P, o196 P, o197 P, o198 P, o199 P, o200 P, o201 P, o202 P, o203 P, o204 P, o205 P, o206 P, o207 P, o208 P, o209 P, o210 P, o211 P, o212 P, o213 P, o214 P, o215 P, o216 P, o217 P, o218 P, o219 P, o220 P, o221 P, o222 P, o223 P, o224 P, o225 P, o226 P, o227 P, o228 P, o229 P, o230 P, o231 P, o232 P, o233 P, o234 P, o235 P, o236 P, o237 P, o238 P, o239 P, o240 P, o241 P, o242 P, o243 P, o244 P, o245 P, o246 P, o247 P, o248 P, o249 P, o250 P, o251 P, o252 P, o253 P, o254 P, o255 P, o256 P, o257 P, o258 P, o259 P, o260 P, o261 P, o262 P, o263 P, o264 P, o265 P, o266 P, o267 P, o268 P, o269 P, o270 P, o271 P, o272 P, o273 P, o274 P, o275 P, o276 P, o277 P, o278 P, o279 P, o280 P, o281 P, o282 P, o283 P, o284 P, o285 P, o286 P, o287 P, o288 P, o289 P, o290 P, o291 P, o292 P, o293 P, o294 P, o295 P, o296 P, o297 P, o298 P, o299 P, o300 P, o301 P, o302 P, o303 P, o304 P, o305 P, o306 P, o307 P, o308 P, o309 P, o310 P, o311 P, o312 P, o313 P, o314 P, o315 P, o316 P, o317 P, o318 P, o319 P, o320 P, o321 P, o322 P, o323 P, o324 P, o325 P, o326 P, o327 P, o328 P, o329 P, o330 P, o331 P, o332 P, o333 P, o334 P, o335 P, o336 P, o337 P, o338 P, o339 P, o340 P, o341 P, o342 P, o343 P, o344 P, o345 P, o346 P, o347 P, o348 P, o349 P, o350 P, o351 P, o352 P, o353 P, o354 P, o355 P, o356 P, o357 P, o358 P, o359 P, o360 P, o361 P, o362 P, o363 P, o364 P, o365 P, o366 P, o367 P, o368 P, o369 P, o370 P, o371 P, o372 P, o373 P, o374 P, o375 P, o376 P, o377 P, o378 P, o379 P, o380 P, o381 P, o382 P, o383 P, o384 P, o385 P, o386 P, o387 P, o388 P, o389 P, o390 P, o391 P, o392 P, o393 P, o394 P, o395 P, o396 P, o397 P, o398 P, o399 P, o400 P, o401 P, o402 P, o403 P, o404 P, o405 P, o406 P, o407 P, o408 P, o409 P, o410 P, o411 P, o412 P, o413 P, o414 P, o415 P, o416 P, o417 P, o418 P, o419 P, o420 P, o421 P, o422 P, o423 P, o424 P, o425 P, o426 P]⟩, {}⟩

noncomputable def sh (t : Params → BT) (n k : Nat) (w : World) (os : OsState) : SharedT := ⟨t w.params, n, {}, #[], {}, k, os⟩
noncomputable def tf : List Frame := [topFrame ⟨0, 0, 0, 0⟩]
theorem r_pre (w : World) (os : OsState) : topGo treeTable pw w 11 (some (.ref 6)) 12 ⟨boot_heap w.params, #[], boot_drawn, boot_toks, os⟩ (topStub pw) =
    some (⟨h0 w.params, #[], {}, 187, os⟩, ⟨denote treeTable cd0, cd0, ⟨0, 0, 0, 0⟩, tf⟩) := by kernel_rfl
theorem r_block (w : World) (os : OsState) : segRun treeTable pw w 11 (some (.ref 6)) 1 1 ⟨h0 w.params, #[], {}, 187, os⟩ (blockOf bd env0 cd0 ⟨0, 0, 0, 0⟩ tf) = some (.next, (sh t0 15 187 w os).abs, cd0, ⟨0, 0, 0, 0⟩) := by kernel_rfl
theorem r_1 (w : World) (os : OsState) : segRunT treeTable pw w 11 (some (.ref 6)) 1 733 (sh t0 15 187 w os) (piecesOf (bd.take 5) env0 cd0 ⟨0, 0, 0, 0⟩ tf) = some (.next, sh t1 74 268 w os, cd0, ⟨16, 0, 17, 8⟩) := by kernel_rfl
theorem r_2 (w : World) (os : OsState) : segRunT treeTable pw w 11 (some (.ref 6)) 1 695 (sh t1 74 268 w os) (piecesOf ((bd.drop 5).take 12) env0 cd0 ⟨16, 0, 17, 8⟩ tf) = some (.next, sh t2 178 413 w os, cd0, ⟨75, 0, 75, 12⟩) := by kernel_rfl
theorem r_3 (w : World) (os : OsState) : segRunT treeTable pw w 11 (some (.ref 6)) 1 619 (sh t2 178 413 w os) (piecesOf (((bd.drop 5).drop 12).take 28) env0 cd0 ⟨75, 0, 75, 12⟩ tf) = some (.next, sh t3 292 591 w os, cd0, ⟨206, 0, 212, 39⟩) := by kernel_rfl
theorem r_4 (w : World) (os : OsState) : segRunT treeTable pw w 11 (some (.ref 6)) 1 641 (sh t3 292 591 w os) (piecesOf (((bd.drop 5).drop 12).drop 28) env0 cd0 ⟨206, 0, 212, 39⟩ tf) = some (.next, sh t4 427 774 w os, cd0, ⟨370, 0, 411, 65⟩) := by kernel_rfl
theorem r_fin (w : World) (os : OsState) : topRun treeTable pw w 11 (some (.ref 6)) 2 (sh t4 427 774 w os).abs ⟨doneF .next, cd0, ⟨370, 0, 411, 65⟩, tf⟩ = some ⟨hF w.params, #[], {}, 774, os⟩ := by kernel_rfl
noncomputable def runN : Nat := 12 + (1 + (733 + (695 + (619 + (641 + 2)))))
theorem r_run (w : World) (os : OsState) : topRun treeTable pw w 11 (some (.ref 6)) runN ⟨boot_heap w.params, #[], boot_drawn, boot_toks, os⟩ (topStub pw) = some ⟨hF w.params, #[], {}, 774, os⟩ := by
  refine go_top (r_pre w os) (piece_block (r_block w os) ?_)
  have e1 : bd = bd.take 5 ++ ((bd.drop 5).take 12 ++ (((bd.drop 5).drop 12).take 28 ++ (((bd.drop 5).drop 12).drop 28 ++ []))) := by
    rw [List.append_nil, List.take_append_drop, List.take_append_drop, List.take_append_drop]
  have k : topRun treeTable pw w 11 (some (.ref 6)) (733 + (695 + (619 + (641 + 2)))) (sh t0 15 187 w os).abs (restOf (bd.take 5 ++ ((bd.drop 5).take 12 ++ (((bd.drop 5).drop 12).take 28 ++ (((bd.drop 5).drop 12).drop 28 ++ [])))) env0 cd0 ⟨0, 0, 0, 0⟩ tf) = some ⟨hF w.params, #[], {}, 774, os⟩ :=
    piece_app (segRun_of (r_1 w os)) (piece_app (segRun_of (r_2 w os)) (piece_app (segRun_of (r_3 w os)) (piece_app (segRun_of (r_4 w os)) (r_fin w os))))
  rw [← e1] at k
  exact k
noncomputable def K0 (P : Params) : Frag := [(1, boot_o_1 P), (2, o2v1 P), (3, o3v4 P), (15, o15 P), (17, o17 P), (18, o18 P), (20, o20 P), (21, o21 P), (22, o22 P), (29, o29 P), (30, o30 P), (32, o32 P), (33, o33 P), (35, o35 P), (36, o36 P), (37, o37 P), (39, o39 P), (40, o40 P), (42, o42 P), (43, o43 P), (44, o44 P), (45, o45 P), (46, o46 P), (47, o47 P), (50, o50 P), (57, o57 P), (58, o58 P), (59, o59 P), (62, o62 P), (69, o69 P), (70, o70 P), (71, o71 P), (81, o81 P), (82, o82 P), (84, o84 P), (85, o85 P), (87, o87 P), (88, o88 P), (89, o89 P), (91, o91 P), (92, o92 P), (94, o94 P), (95, o95 P), (96, o96 P), (97, o97 P), (99, o99 P), (100, o100 P), (102, o102 P), (103, o103 P), (104, o104 P), (106, o106 P), (107, o107 P), (109, o109 P), (110, o110 P), (111, o111 P), (113, o113 P), (114, o114 P), (116, o116 P), (117, o117 P), (118, o118 P), (120, o120 P), (121, o121 P), (123, o123 P), (124, o124 P), (125, o125 P), (127, o127 P), (128, o128 P), (130, o130 P), (131, o131 P), (132, o132 P), (134, o134 P), (135, o135 P), (137, o137 P), (138, o138 P), (139, o139 P), (141, o141 P), (142, o142 P), (144, o144 P), (145, o145 P), (146, o146 P), (148, o148 P), (149, o149 P), (151, o151 P), (152, o152 P), (153, o153 P), (154, o154 P), (155, o155 P), (156, o156 P), (157, o157 P), (160, o160 P), (162, o162 P), (163, o163 P), (165, o165 P), (166, o166 P), (167, o167 P), (170, o170 P), (171, o171 P), (172, o172 P), (175, o175 P), (176, o176 P), (177, o177 P), (178, o178 P), (180, o180 P), (181, o181 P), (183, o183 P), (184, o184 P), (185, o185 P), (187, o187 P), (188, o188 P), (190, o190 P), (191, o191 P), (192, o192 P), (194, o194 P), (195, o195 P), (197, o197 P), (198, o198 P), (199, o199 P), (201, o201 P), (202, o202 P), (204, o204 P), (205, o205 P), (206, o206 P), (208, o208 P), (209, o209 P), (211, o211 P), (212, o212 P), (213, o213 P), (215, o215 P), (216, o216 P), (218, o218 P), (219, o219 P), (220, o220 P), (222, o222 P), (223, o223 P), (225, o225 P), (226, o226 P), (227, o227 P), (229, o229 P), (230, o230 P), (232, o232 P), (233, o233 P), (234, o234 P), (236, o236 P), (237, o237 P), (239, o239 P), (240, o240 P), (241, o241 P), (242, o242 P), (244, o244 P), (245, o245 P), (247, o247 P), (248, o248 P), (249, o249 P), (251, o251 P), (252, o252 P), (254, o254 P), (255, o255 P), (256, o256 P), (258, o258 P), (259, o259 P), (261, o261 P), (262, o262 P), (263, o263 P), (265, o265 P), (266, o266 P), (268, o268 P), (269, o269 P), (270, o270 P), (271, o271 P), (273, o273 P), (274, o274 P), (276, o276 P), (277, o277 P), (278, o278 P), (280, o280 P), (281, o281 P), (283, o283 P), (284, o284 P), (285, o285 P), (287, o287 P), (288, o288 P), (290, o290 P), (291, o291 P), (292, o292 P), (294, o294 P), (295, o295 P), (297, o297 P), (298, o298 P), (299, o299 P), (301, o301 P), (302, o302 P), (304, o304 P), (305, o305 P), (306, o306 P), (309, o309 P), (310, o310 P), (311, o311 P), (313, o313 P), (314, o314 P), (316, o316 P), (317, o317 P), (318, o318 P), (320, o320 P), (321, o321 P), (323, o323 P), (324, o324 P), (325, o325 P), (327, o327 P), (328, o328 P), (330, o330 P), (331, o331 P), (332, o332 P), (335, o335 P), (336, o336 P), (337, o337 P), (339, o339 P), (340, o340 P), (342, o342 P), (343, o343 P), (344, o344 P), (347, o347 P), (348, o348 P), (349, o349 P), (351, o351 P), (352, o352 P), (354, o354 P), (355, o355 P), (356, o356 P), (358, o358 P), (359, o359 P), (361, o361 P), (362, o362 P), (363, o363 P), (365, o365 P), (366, o366 P), (368, o368 P), (369, o369 P), (370, o370 P), (373, o373 P), (374, o374 P), (375, o375 P), (377, o377 P), (378, o378 P), (380, o380 P), (381, o381 P), (382, o382 P), (384, o384 P), (385, o385 P), (387, o387 P), (388, o388 P), (389, o389 P), (391, o391 P), (392, o392 P), (394, o394 P), (395, o395 P), (396, o396 P), (398, o398 P), (399, o399 P), (401, o401 P), (402, o402 P), (403, o403 P), (405, o405 P), (406, o406 P), (408, o408 P), (409, o409 P), (410, o410 P), (413, o413 P), (414, o414 P), (415, o415 P), (417, o417 P), (418, o418 P), (420, o420 P), (421, o421 P), (422, o422 P), (425, o425 P), (426, o426 P)]
noncomputable def as0 : List Addr := [1, 2, 3, 15, 17, 18, 20, 21, 22, 29, 30, 32, 33, 35, 36, 37, 39, 40, 42, 43, 44, 45, 46, 47, 50, 57, 58, 59, 62, 69, 70, 71, 81, 82, 84, 85, 87, 88, 89, 91, 92, 94, 95, 96, 97, 99, 100, 102, 103, 104, 106, 107, 109, 110, 111, 113, 114, 116, 117, 118, 120, 121, 123, 124, 125, 127, 128, 130, 131, 132, 134, 135, 137, 138, 139, 141, 142, 144, 145, 146, 148, 149, 151, 152, 153, 154, 155, 156, 157, 160, 162, 163, 165, 166, 167, 170, 171, 172, 175, 176, 177, 178, 180, 181, 183, 184, 185, 187, 188, 190, 191, 192, 194, 195, 197, 198, 199, 201, 202, 204, 205, 206, 208, 209, 211, 212, 213, 215, 216, 218, 219, 220, 222, 223, 225, 226, 227, 229, 230, 232, 233, 234, 236, 237, 239, 240, 241, 242, 244, 245, 247, 248, 249, 251, 252, 254, 255, 256, 258, 259, 261, 262, 263, 265, 266, 268, 269, 270, 271, 273, 274, 276, 277, 278, 280, 281, 283, 284, 285, 287, 288, 290, 291, 292, 294, 295, 297, 298, 299, 301, 302, 304, 305, 306, 309, 310, 311, 313, 314, 316, 317, 318, 320, 321, 323, 324, 325, 327, 328, 330, 331, 332, 335, 336, 337, 339, 340, 342, 343, 344, 347, 348, 349, 351, 352, 354, 355, 356, 358, 359, 361, 362, 363, 365, 366, 368, 369, 370, 373, 374, 375, 377, 378, 380, 381, 382, 384, 385, 387, 388, 389, 391, 392, 394, 395, 396, 398, 399, 401, 402, 403, 405, 406, 408, 409, 410, 413, 414, 415, 417, 418, 420, 421, 422, 425, 426]
noncomputable def q0 : Program := { pw with main := { pw.main with body := [sA 66] } }
noncomputable def loose0 : List Str := [Str.ofString "_wall", Str.ofString "PostError", Str.ofString "WordFault", Str.ofString "MimeFault", Str.ofString "MOST_FIGURES", Str.ofString "Cursor", Str.ofString "lower_code", Str.ofString "lower", Str.ofString "lower_text", Str.ofString "ASCII", Str.ofString "LATIN", Str.ofString "UTF8", Str.ofString "CHARSETS", Str.ofString "UNKNOWN_SIGN", Str.ofString "charset_names", Str.ofString "charset_name", Str.ofString "need_charset", Str.ofString "follower_span", Str.ofString "utf8_sign", Str.ofString "sign_at", Str.ofString "text_in", Str.ofString "strict_text", Str.ofString "guessed_text", Str.ofString "MOST_DEPTH", Str.ofString "NEVER_ESCAPED", Str.ofString "line_end", Str.ofString "inside_at", Str.ofString "closed_at", Str.ofString "comment_at", Str.ofString "WHITE", Str.ofString "SEMICOLON", Str.ofString "EQUALS", Str.ofString "QUOTE", Str.ofString "BRACKET", Str.ofString "PER_CENT", Str.ofString "BARRED", Str.ofString "HEX_FIGURES", Str.ofString "is_token_code", Str.ofString "skip_between", Str.ofString "take_token", Str.ofString "is_worth_code", Str.ofString "take_worth", Str.ofString "small_word", Str.ofString "take_pairs", Str.ofString "part_number", Str.ofString "part_of", Str.ofString "hex_worth", Str.ofString "percent_decoded", Str.ofString "charset_cut", Str.ofString "joined_worth", Str.ofString "params_of", Str.ofString "read_value", Str.ofString "_law_pot", Str.ofString "_law_draw", Str.ofString "_law_signs", Str.ofString "_law_charsets", Str.ofString "_law_sign_octets", Str.ofString "_law_percent", Str.ofString "_law_quoted", Str.ofString "_law_text"]
noncomputable def hk0 : Hook := kHook K0 as0 (fun _ => by kernel_rfl)
theorem l_open (w : World) : (fencedOpening treeTable pw w 5500).map (fun s => (s.heap, s.gens, s.drawn, s.toks)) = some (boot_heap w.params, #[], boot_drawn, boot_toks) :=
  boot_open (by kernel_rfl) (by decide +kernel) (fun s => by kernel_rfl) w
theorem l_size (w : World) : ((boot_heap w.params).isNs mainGlobals && (#[] : Array GenState).size == 0, (boot_heap w.params).objs.size, (boot_heap w.params).nsMap mainGlobals "__annotations__") = (true, 11, some (.ref 6)) := by kernel_rfl
noncomputable def Xt0 : Shared → Bool := fun s => xlAt q0 [] s && recOk lw.row.toRowW.records s
theorem l_looks1 (w : World) (os : OsState) : (staticsOk (importedModules pw.main.body) (boot_heap w.params) (hF w.params) && namesBound pw (hF w.params) && gensDone ⟨hF w.params, #[], {}, 774, os⟩ && laidKept (boot_heap w.params) (hF w.params)) = true := by kernel_rfl
theorem l_looks2 (w : World) (os : OsState) : openSeen q0 loose0 (importedModules pw.main.body) Xt0 true ⟨hF w.params, #[], {}, 774, os⟩ = openGood q0 loose0 := by kernel_rfl
theorem l_looks3 (w : World) (os : OsState) : hk0.obs ⟨hF w.params, #[], {}, 774, os⟩ = hk0.val w := by kernel_rfl
theorem left0 : LeftO pw q0 loose0 Xt0 hk0.obs hk0.val 5500 :=
  LeftO.of_pieces l_open l_size r_run (by decide +kernel) fun w => by
    funext os
    rw [l_looks1, l_looks2, l_looks3]
/-! the law is well said: each look a step of its own, so that no step is a large one -/
theorem out_vars : readsOut pw pw.main.body (Str.ofString "vars") = false := by decide +kernel
theorem out_dir : readsOut pw pw.main.body (Str.ofString "dir") = false := by decide +kernel
theorem out_loc : readsOut pw pw.main.body (Str.ofString "locals") = false := by decide +kernel
theorem out_all : List.filter (readsOut pw pw.main.body) [Str.ofString "vars", Str.ofString "dir", Str.ofString "locals"] = [] := by
  rw [List.filter_cons_of_neg (by rw [out_vars]; exact Bool.false_ne_true), List.filter_cons_of_neg (by rw [out_dir]; exact Bool.false_ne_true), List.filter_cons_of_neg (by rw [out_loc]; exact Bool.false_ne_true)]
  rfl
theorem roads : noRoadLSs { strict := !(importedModules pw.main.body).all cThrough.contains, foot := none, bare := [] } pw.main.body = true := by decide +kernel
theorem looks0 : looksOpen pw = true := by
  delta looksOpen
  refine look_both (look_both (look_both (look_both ?_ ?_) ?_) ?_) ?_
  · decide +kernel
  · decide +kernel
  · decide +kernel
  · have h := roads
    rw [← out_all] at h
    exact h
  · decide +kernel
theorem said0 : lw.wellSaid = true := by
  show OpenLaw.wellSaid PySem.Challenge.rw_no0381_01 = true
  delta OpenLaw.wellSaid
  repeat' (with_reducible refine look_both ?_ ?_)
  · delta OpenRow.wellSaid
    repeat' (with_reducible refine look_both ?_ ?_)
    · delta OpenRow.partSaid
      repeat' (with_reducible refine look_both ?_ ?_)
      · exact looks0
      all_goals decide +kernel
    all_goals decide +kernel
  all_goals decide +kernel

-- H3
noncomputable def d0 : DefRec := match sA 66 with | .FunctionDef n a b _ _ _ sc _ _ p => ⟨n, a, b, sc, p⟩ | _ => ⟨"", default, [], {kind := .function, names := [], isGenerator := false, isCoroutine := false}, ⟨0,0,0,0⟩⟩
theorem head0 (walk : WalkO q0 loose0 (XL q0 []) hk0.says lw.row.toRowW d0 [] fun f vs => PySem.call f vs) : lw.Holds := by
  refine holds_law said0 fun said => ?_
  refine holds_open (q := q0) (loose := loose0) (Xt := Xt0) (XP := XL q0 []) (Yf := hk0.obs) (Ya := hk0.val) (YP := hk0.says) (N := 5500) (d := d0) (kwd := []) left0 hk0.of hk0.keeps (fun s e => xl_of s (Bool.and_eq_true_iff.mp e).1) XL.keeps (by kernel_rfl) (by kernel_rfl) (by kernel_rfl) (fun s e => recFacts_of (Bool.and_eq_true_iff.mp e).2) (by rfl) said (by decide +kernel) ⟨by kernel_rfl, rfl, rfl, rfl, rfl, by decide +kernel⟩ ⟨[.list []], by decide +kernel, by decide +kernel⟩ walk

-- M1

/-! abstract values, abstract heap -/
inductive PV where
  | none | bool (b : Bool) | int (i : Int) | str (l : List Nat) | bytes (l : List Nat) | tup (l : List PV) | ref (a : Addr) | bi (id : String) | ty (n : String) | flist (l : List PV) | rng (a b : Int)

inductive AObj where
  | list (l : List PV)
  | sdict (kvs : List (List Nat × PV)) (ep : Nat)
  | idict (kvs : List (Int × PV))
  | inst (C dx : Addr)
  | attrs (kvs : List (Str × PV))

abbrev AHeap := Addr → Option AObj
abbrev Locals := List (Str × PV)

noncomputable def AHeap.set (H : AHeap) (a : Addr) (o : AObj) : AHeap := fun b => if b = a then some o else H b
theorem AHeap.set_same (H : AHeap) (a : Addr) (o : AObj) : H.set a o a = some o := if_pos rfl
theorem AHeap.set_other {H : AHeap} {a b : Addr} {o : AObj} (h : b ≠ a) : H.set a o b = H b := if_neg h
/-- sub heap -/
noncomputable def AHeap.Le (H H' : AHeap) : Prop := ∀ a o, H a = some o → H' a = some o

mutual
noncomputable def V (B h : Heap) : PV → Value → Prop
  | .none, v => v = .none
  | .bool b, v => v = .bool b
  | .int i, v => ∃ t, v = .int i t
  | .str l, v => ∃ t, v = .str ⟨l.toArray⟩ t
  | .bytes l, v => ∃ arr t, v = .bytes arr t ∧ arr.toList.map (·.toNat) = l
  | .tup l, v => ∃ a vs, v = .ref a ∧ IsTup h a vs.toArray ∧ VL B h l vs
  | .ref a, v => v = .ref a
  | .bi id, v => v = .builtin id
  | .ty n, v => v = .type n
  | .flist l, v => ∃ a vs, v = .ref a ∧ B.IsList a vs.toArray ∧ VL B h l vs
  | .rng a b, v => ∃ r t u x, v = .ref r ∧ IsRange h r a b 1 t u x
noncomputable def VL (B h : Heap) : List PV → List Value → Prop
  | [], vs => vs = []
  | p :: ps, vs => ∃ v r, vs = v :: r ∧ V B h p v ∧ VL B h ps r
end

noncomputable def AttrsAre (B h : Heap) : List (Str × PV) → List DictEntry → Prop
  | [], es => es = []
  | p :: ps, es => ∃ e r t, es = e :: r ∧ e.key = .str p.1 t ∧ V B h p.2 e.val ∧ AttrsAre B h ps r

section
variable (prog : Program) (w : World) (B : Heap)

noncomputable def RepO (h : Heap) (a : Addr) : AObj → Prop
  | .list l => ∃ vs n, h.get? a = some { cls := .type "list", data := .seq vs.toArray n } ∧ VL B h l vs
  | .sdict kvs ep => ∃ kvs', h.DictAt (strKind prog w) a kvs' ep ∧ kvs'.map (·.1.cps.toList) = kvs.map (·.1) ∧ VL B h (kvs.map (·.2)) (kvs'.map (·.2))
  | .idict kvs => ∃ kvs', h.DictOf (intKind prog w) a kvs' ∧ kvs'.map (·.1) = kvs.map (·.1) ∧ VL B h (kvs.map (·.2)) (kvs'.map (·.2))
  | .inst C dx => h.get? a = some (instObj C dx)
  | .attrs kvs => ∃ es n, h.get? a = some (dictOf es n) ∧ AttrsAre B h kvs es

structure WF (H : AHeap) (h : Heap) : Prop where
  base : ∀ b o, B.get? b = some o → h.get? b = some o
  low : ∀ a o, H a = some o → B.get? a = none
  rep : ∀ a o, H a = some o → RepO prog w B h a o
end

/-- what a step may do: all that stood and is not in H (nor in X) stands; H' is new only where the heap was -/
structure Step (X : Addr → Prop) (H : AHeap) (h : Heap) (H' : AHeap) (h' : Heap) : Prop where
  keep : ∀ b o, h.get? b = some o → H b = none → ¬ X b → h'.get? b = some o ∧ H' b = none

noncomputable def NoX : Addr → Prop := fun _ => False

theorem Step.refl (X : Addr → Prop) (H : AHeap) (h : Heap) : Step X H h H h := ⟨fun _ _ e n _ => ⟨e, n⟩⟩
theorem Step.trans {X : Addr → Prop} {H H₁ H₂ : AHeap} {h h₁ h₂ : Heap} (a : Step X H h H₁ h₁) (b : Step X H₁ h₁ H₂ h₂) : Step X H h H₂ h₂ :=
  ⟨fun c o e n x => b.keep c o (a.keep c o e n x).1 (a.keep c o e n x).2 x⟩
theorem Step.weaken {X Y : Addr → Prop} {H H₁ : AHeap} {h h₁ : Heap} (a : Step X H h H₁ h₁) (xy : ∀ b, X b → Y b) : Step Y H h H₁ h₁ :=
  ⟨fun c o e n x => a.keep c o e n (fun q => x (xy _ q))⟩
theorem Step.ofNo {X : Addr → Prop} {H H₁ : AHeap} {h h₁ : Heap} (a : Step NoX H h H₁ h₁) : Step X H h H₁ h₁ := a.weaken fun _ x => x.elim

/-! objects by their kind -/
section
variable {prog : Program} {w : World} {B : Heap}

/-- objects that are never written -/
noncomputable def Imm (o : Obj) : Prop := (o.cls = .type "tuple" ∧ ∃ its n, o.data = .seq its n) ∨ (o.cls = .type "range" ∧ ∃ vs, o.data = .fields vs)
noncomputable def KeepImm (h h' : Heap) : Prop := ∀ a o, h.get? a = some o → Imm o → h'.get? a = some o
theorem KeepImm.tup {h h' : Heap} (k : KeepImm h h') {a : Addr} {its : Array Value} (t : IsTup h a its) : IsTup h' a its := by
  obtain ⟨o, e, c, n, r⟩ := t
  exact ⟨o, k a o e (.inl ⟨c, _, _, r⟩), c, n, r⟩
theorem KeepImm.rng {h h' : Heap} (k : KeepImm h h') {r : Addr} {a b c : Int} {t u v : Tok} (x : IsRange h r a b c t u v) : IsRange h' r a b c t u v := k r _ x (.inr ⟨rfl, _, rfl⟩)
theorem notImm_dict {o : Obj} {es : Array DictEntry} {ep : Nat} (h : o.data = .dict es ep) : ¬ Imm o := by
  rintro (⟨_, _, _, e⟩ | ⟨_, _, e⟩) <;> · rw [h] at e; cases e
theorem notImm_cell {o : Obj} {v : Option Value} (h : o.data = .cell v) : ¬ Imm o := by
  rintro (⟨_, _, _, e⟩ | ⟨_, _, e⟩) <;> · rw [h] at e; cases e
theorem RepO.obj {h : Heap} {a : Addr} {o : AObj} (r : RepO prog w B h a o) : ∃ ob, h.get? a = some ob ∧ ¬ Imm ob ∧ (∀ v, ob.data ≠ .cell v) := by
  cases o with
  | list l => obtain ⟨vs, n, e, _⟩ := r; exact ⟨_, e, by simp [Imm], by simp⟩
  | sdict kvs ep => obtain ⟨k, ⟨ob, es, e, x, d, _⟩, _⟩ := r; exact ⟨_, e, by simp [Imm, x.1], by rw [d]; simp⟩
  | idict kvs => obtain ⟨k, ⟨ob, es, ep, e, x, d, _⟩, _⟩ := r; exact ⟨_, e, by simp [Imm, x.1], by rw [d]; simp⟩
  | inst C dx => exact ⟨_, r, by simp [Imm], by simp⟩
  | attrs kvs => obtain ⟨es, n, e, _⟩ := r; exact ⟨_, e, by simp [Imm], by simp⟩

theorem WF.noImm {H : AHeap} {h : Heap} (W : WF prog w B H h) {a : Addr} {ob : Obj} (t : h.get? a = some ob) (i : Imm ob) : H a = none := by
  cases e : H a with
  | none => rfl
  | some o =>
    obtain ⟨ob', e1, e2, _⟩ := (W.rep a o e).obj
    rw [e1] at t; cases t; exact absurd i e2
theorem WF.noCell {H : AHeap} {h : Heap} (W : WF prog w B H h) {a : Addr} {v : Option Value} (t : h.IsCell a v) : H a = none := by
  cases e : H a with
  | none => rfl
  | some o =>
    obtain ⟨ob, e1, _, e2⟩ := (W.rep a o e).obj
    obtain ⟨ob', e3, e4⟩ := t
    rw [e1] at e3; cases e3; exact absurd e4 (e2 _)
theorem WF.noBase {H : AHeap} {h : Heap} (W : WF prog w B H h) {a : Addr} {ob : Obj} (t : B.get? a = some ob) : H a = none := by
  cases e : H a with
  | none => rfl
  | some o => rw [W.low a o e] at t; cases t
theorem WF.noNew {H : AHeap} {h : Heap} (W : WF prog w B H h) : B.get? h.objs.size = none := by
  cases e : B.get? h.objs.size with
  | none => rfl
  | some o => exact absurd (Heap.lt_size (W.base _ _ e)) (Nat.lt_irrefl _)

mutual
theorem V.mono {h h' : Heap} (k : KeepImm h h') : ∀ {p : PV} {v : Value}, V B h p v → V B h' p v
  | .none, _, x => x
  | .bool _, _, x => x
  | .int _, _, x => x
  | .str _, _, x => x
  | .bytes _, _, x => x
  | .tup _, _, x => by
    obtain ⟨a, vs, e, t, l⟩ := x
    exact Exists.intro a (.intro vs ⟨e, k.tup t, VL.mono k l⟩)
  | .ref _, _, x => x
  | .bi _, _, x => x
  | .ty _, _, x => x
  | .flist _, _, x => by
    obtain ⟨a, vs, e, t, l⟩ := x
    exact Exists.intro a (.intro vs ⟨e, t, VL.mono k l⟩)
  | .rng _ _, _, x => by
    obtain ⟨r, t, u, z, e, y⟩ := x
    exact Exists.intro r (.intro t (.intro u (.intro z ⟨e, k.rng y⟩)))
theorem VL.mono {h h' : Heap} (k : KeepImm h h') : ∀ {p : List PV} {v : List Value}, VL B h p v → VL B h' p v
  | [], _, x => x
  | _ :: _, _, x => by
    obtain ⟨v, r, e, a, b⟩ := x
    exact Exists.intro v (.intro r ⟨e, V.mono k a, VL.mono k b⟩)
end
theorem AttrsAre.mono {h h' : Heap} (k : KeepImm h h') : ∀ {p : List (Str × PV)} {v : List DictEntry}, AttrsAre B h p v → AttrsAre B h' p v
  | [], _, x => x
  | _ :: _, _, ⟨e, r, t, a, b, c, d⟩ => ⟨e, r, t, a, b, c.mono k, AttrsAre.mono k d⟩

theorem Step.imm {X : Addr → Prop} {H H' : AHeap} {h h' : Heap} (W : WF prog w B H h) (S : Step X H h H' h') (hX : ∀ a o, X a → h.get? a = some o → ¬ Imm o) : KeepImm h h' :=
  fun a o t i => (S.keep a o t (W.noImm t i) fun x => hX a o x t i).1
theorem V.step {H H' : AHeap} {h h' : Heap} {p : PV} {v : Value} (x : V B h p v) (W : WF prog w B H h) (S : Step NoX H h H' h') : V B h' p v := x.mono (S.imm W fun _ _ x => x.elim)
theorem VL.step {H H' : AHeap} {h h' : Heap} {p : List PV} {v : List Value} (x : VL B h p v) (W : WF prog w B H h) (S : Step NoX H h H' h') : VL B h' p v := x.mono (S.imm W fun _ _ x => x.elim)

theorem RepO.mono {h h' : Heap} {a : Addr} {o : AObj} (r : RepO prog w B h a o) (k : KeepImm h h') (e : ∀ ob, h.get? a = some ob → h'.get? a = some ob) : RepO prog w B h' a o := by
  cases o with
  | list l => obtain ⟨vs, n, q, x⟩ := r; exact ⟨vs, n, e _ q, x.mono k⟩
  | sdict kvs ep => obtain ⟨kv, ⟨ob, es, q, r⟩, x, y⟩ := r; exact ⟨kv, ⟨ob, es, e _ q, r⟩, x, y.mono k⟩
  | idict kvs => obtain ⟨kv, ⟨ob, es, ep, q, r⟩, x, y⟩ := r; exact ⟨kv, ⟨ob, es, ep, e _ q, r⟩, x, y.mono k⟩
  | inst C dx => exact e _ r
  | attrs kvs => obtain ⟨es, n, q, x⟩ := r; exact ⟨es, n, e _ q, x.mono k⟩

/-- the heap has changed at one place that is none of H's, nor the base's, nor a tuple -/
theorem WF.sameBut {H : AHeap} {h h' : Heap} {a : Addr} (W : WF prog w B H h) (S : Heap.ExtBut a h h') (hH : H a = none) (hB : B.get? a = none) (ht : ∀ o, h.get? a = some o → ¬ Imm o) : WF prog w B H h' := by
  have k : KeepImm h h' := fun b o t i => by
    have ne : b ≠ a := fun q => ht o (q ▸ t) i
    exact S b o ne t
  refine ⟨fun b o e => S b o (fun q => ?_) (W.base b o e), W.low, fun b o e => (W.rep b o e).mono k fun ob q => S b ob (fun z => ?_) q⟩
  · subst q; rw [hB] at e; cases e
  · subst z; rw [hH] at e; cases e
theorem WF.keeps {H : AHeap} {h h' : Heap} (W : WF prog w B H h) (k : ∀ b o, h.get? b = some o → h'.get? b = some o) : WF prog w B H h' :=
  ⟨fun b o' e => k _ _ (W.base b o' e), W.low, fun b o' e => (W.rep b o' e).mono (fun b o' e _ => k _ _ e) fun ob q => k _ _ q⟩
theorem WF.push {H : AHeap} {h : Heap} (W : WF prog w B H h) (o : Obj) : WF prog w B H (h.push o) := W.keeps fun b o' e => Heap.get?_push_of_some _ e
theorem Step.keeps {X : Addr → Prop} {H : AHeap} {h h' : Heap} (k : ∀ b o, h.get? b = some o → h'.get? b = some o) : Step X H h H h' := ⟨fun _ _ e n _ => ⟨k _ _ e, n⟩⟩
theorem Step.push (X : Addr → Prop) (H : AHeap) (h : Heap) (o : Obj) : Step X H h H (h.push o) := .keeps fun _ _ e => Heap.get?_push_of_some _ e
/-- the heap has changed at one place alone, where none of H's stands -/
theorem Step.sameBut {X : Addr → Prop} {H : AHeap} {h h' : Heap} {a : Addr} (S : Heap.ExtBut a h h') (x : X a ∨ h.get? a = none) : Step X H h H h' :=
  ⟨fun b o e n y => ⟨S b o (fun q => by subst q; rcases x with x | x; exact y x; rw [x] at e; cases e) e, n⟩⟩
theorem Step.drop {X : Addr → Prop} {H H' : AHeap} {h h' : Heap} (S : Step X H h H' h') (hX : ∀ a, X a → h.get? a = none) : Step NoX H h H' h' :=
  ⟨fun b o e n _ => S.keep b o e n fun x => by rw [hX b x] at e; cases e⟩
/-- a change at a place that was not there at the start -/
theorem Step.atNew {X : Addr → Prop} {H H' : AHeap} {h h₁ h₂ : Heap} {a : Addr} (S : Step X H h H' h₁) (e : h.get? a = none) (x : Heap.ExtBut a h₁ h₂) : Step X H h H' h₂ :=
  ⟨fun b o q n y => ⟨x b o (fun z => by rw [z, e] at q; cases q) (S.keep b o q n y).1, (S.keep b o q n y).2⟩⟩
theorem WF.blist {H : AHeap} {h : Heap} {a : Addr} {items : Array Value} (W : WF prog w B H h) (x : B.IsList a items) : h.IsList a items := let ⟨o, e, r⟩ := x; ⟨o, W.base _ _ e, r⟩
theorem get?_new (h : Heap) : h.get? h.objs.size = none := by
  cases e : h.get? h.objs.size with
  | none => rfl
  | some o => exact absurd (Heap.lt_size e) (Nat.lt_irrefl _)
theorem WF.fresh {H : AHeap} {h : Heap} {a : Addr} (W : WF prog w B H h) (e : h.get? a = none) : H a = none := by
  cases q : H a with
  | none => rfl
  | some o => obtain ⟨ob, z, _⟩ := (W.rep _ o q).obj; rw [e] at z; cases z

theorem WF.freshB {H : AHeap} {h : Heap} {a : Addr} (W : WF prog w B H h) (e : h.get? a = none) : B.get? a = none := by
  cases q : B.get? a with
  | none => rfl
  | some o => have := W.base _ _ q; rw [e] at this; cases this
/-- a new object of H -/
theorem WF.alloc {H : AHeap} {h' : Heap} {a : Addr} {ao : AObj} (W : WF prog w B H h') (e : H a = none) (eB : B.get? a = none) (r : RepO prog w B h' a ao) : WF prog w B (H.set a ao) h' := by
  refine ⟨W.base, fun a o' e => ?_, fun a o' e => ?_⟩
  · unfold AHeap.set at e; split at e
    · rename_i q; rw [q]; exact eB
    · exact W.low a o' e
  · unfold AHeap.set at e; split at e
    · rename_i q; cases e; rw [q]; exact r
    · exact W.rep a o' e
theorem Step.alloc {X : Addr → Prop} {H H₁ : AHeap} {h h₁ : Heap} {a : Addr} {ao : AObj} (S : Step X H h H₁ h₁) (e : h.get? a = none) : Step X H h (H₁.set a ao) h₁ :=
  ⟨fun b o q n y => ⟨(S.keep b o q n y).1, by rw [AHeap.set_other (fun z => by rw [z, e] at q; cases q)]; exact (S.keep b o q n y).2⟩⟩

/-- an object of H is written -/
theorem WF.write {H : AHeap} {h h' : Heap} {a : Addr} {o ao : AObj} (W : WF prog w B H h) (e : H a = some o) (S : Heap.ExtBut a h h')
    (r : KeepImm h h' → RepO prog w B h' a ao) : WF prog w B (H.set a ao) h' := by
  have k : KeepImm h h' := fun b ob t i => by
    have ne : b ≠ a := fun q => by have := W.noImm t i; rw [q, e] at this; cases this
    exact S b ob ne t
  refine ⟨fun b o' q => S b o' (fun z => ?_) (W.base b o' q), fun b o' q => ?_, fun b o' q => ?_⟩
  · subst z; rw [W.low _ _ e] at q; cases q
  · unfold AHeap.set at q; split at q
    · rename_i z; rw [z]; exact W.low _ _ e
    · exact W.low _ _ q
  · unfold AHeap.set at q; split at q
    · rename_i z; cases q; rw [z]; exact r k
    · rename_i z; exact (W.rep b o' q).mono k fun ob y => S b ob z y
theorem Step.write {X : Addr → Prop} {H : AHeap} {h h' : Heap} {a : Addr} {o ao : AObj} (e : H a = some o) (S : Heap.ExtBut a h h') : Step X H h (H.set a ao) h' :=
  ⟨fun b o' q n _ => have ne : b ≠ a := fun z => by rw [z, e] at n; cases n
    ⟨S b o' ne q, by rw [AHeap.set_other ne]; exact n⟩⟩
theorem KeepImm.write {H : AHeap} {h h' : Heap} {a : Addr} {o : AObj} (W : WF prog w B H h) (e : H a = some o) (S : Heap.ExtBut a h h') : KeepImm h h' := fun b ob t i => by
  have ne : b ≠ a := fun q => by have := W.noImm t i; rw [q, e] at this; cases this
  exact S b ob ne t

/-- H may be forgotten in part -/
theorem WF.forget {H H' : AHeap} {h : Heap} (W : WF prog w B H h) (le : H'.Le H) : WF prog w B H' h :=
  ⟨W.base, fun a o e => W.low a o (le a o e), fun a o e => W.rep a o (le a o e)⟩
theorem Step.forget {X : Addr → Prop} {H H₁ H₂ : AHeap} {h h₁ : Heap} (S : Step X H h H₁ h₁) (le : H₂.Le H₁) : Step X H h H₂ h₁ :=
  ⟨fun b o q n y => ⟨(S.keep b o q n y).1, by
    cases e : H₂ b with
    | none => rfl
    | some o => have := le b o e; rw [(S.keep b _ q n y).2] at this; cases this⟩⟩
end

-- M2

/-! locals -/
abbrev Loc := Str → Option PV
noncomputable def Loc.put (m : Loc) (x : Str) (v : PV) : Loc := fun y => if y = x then some v else m y
noncomputable def Loc.nil : Loc := fun _ => none

inductive Fl where
  | next | brk | cont
  | ret (v : PV)

/-- the room around at level l -/
structure AOk (l : Nat) (A : Around) : Prop where
  handled : A.handled = none
  depth : A.depth ≤ 400 + 4 * l
  units : A.units ≤ 500 + 40 * l

noncomputable def Same (s s' : Shared) : Prop := s'.gens = s.gens ∧ s'.drawn = s.drawn ∧ s'.os = s.os
theorem Same.refl (s : Shared) : Same s s := ⟨rfl, rfl, rfl⟩
theorem Same.trans {a b c : Shared} (x : Same a b) (y : Same b c) : Same a c := ⟨y.1.trans x.1, y.2.1.trans x.2.1, y.2.2.trans x.2.2⟩

/-- what is known of the module -/
structure GH (K : Frag) (B : Heap) (mg mb : Str → Option Value) : Prop where
  X : K.In B
  g : B.Ns mainGlobals mg
  b : B.Ns builtinsNs mb
  bi : ∀ x, x ≠ ("__name__" : Str) → mb x = bootBuiltins x
  lim : B.NoLimit
  sys : ∃ o, B.get? sysModules = some o

structure EnvOk (sc : Scope) (env : Env) : Prop where
  scope : env.scope = sc
  kind : sc.kind = .function
  globals : env.globals = mainGlobals
  builtins : env.builtins = builtinsNs

section
variable (prog : Program) (w : World) (B : Heap)

structure Fm (env : Env) (m : Loc) (H : AHeap) (h : Heap) : Prop where
  ns : ∃ mv, h.Ns env.locals mv ∧ ∀ x pv, m x = some pv → env.kindOf x = some .local → ∃ v, mv x = some v ∧ V B h pv v
  kinds : ∀ x pv, m x = some pv → env.kindOf x = some .local ∨ env.kindOf x = some .cell ∨ (env.kindOf x = some .free ∧ x ≠ ("__classdict__" : Str))
  cell : ∀ x pv, m x = some pv → env.kindOf x ≠ some .local → ∃ c v, env.cells.lookup x = some c ∧ h.IsCell c (some v) ∧ V B h pv v
  cst : ∀ x, env.kindOf x = some .cell → ∃ c v, env.cells.lookup x = some c ∧ h.IsCell c v
  inj : ∀ x y c, env.cells.lookup x = some c → env.cells.lookup y = some c → x = y
  loc : H env.locals = none
  high : B.get? env.locals = none
  chigh : ∀ x c, env.cells.lookup x = some c → B.get? c = none

/-- the places that a statement of this frame may change beside H -/
noncomputable def Own (env : Env) : Addr → Prop := fun a => a = env.locals ∨ ∃ x, env.kindOf x = some .cell ∧ env.cells.lookup x = some a

/-- a value is handed on -/
noncomputable def Hand (X : Addr → Prop) (s : Shared) (H : AHeap) (k : PV → AHeap → Prop) (Q : Value → Shared → Prop) : Prop :=
  ∀ pv v H' s', Same s s' → Step X H s.heap H' s'.heap → WF prog w B H' s'.heap → V B s'.heap pv v → k pv H' → Q v s'

noncomputable def CallsV (l : Nat) (f : Value) (args : List PV) (H : AHeap) (k : PV → AHeap → Prop) : Prop :=
  ∀ (A : Around) (s : Shared) (E Q : Value → Shared → Prop) (vs : List Value), AOk l A → WF prog w B H s.heap → VL B s.heap args vs → Hand prog w B NoX s H k Q →
    wpAny (model prog w) A (call f vs) Q E s

/-- the caller's look at what it calls -/
noncomputable def Keep (f : Value) : Prop := ∀ h : Heap, (∀ b o, B.get? b = some o → h.get? b = some o) → ∃ k, (k = Keeper.frame ∨ k = Keeper.machine ∨ k = Keeper.boundFrame) ∧ Looks (model prog w) h (keeperOf f) k

noncomputable def Call (l : Nat) (a : Addr) (args : List PV) (H : AHeap) (k : PV → AHeap → Prop) : Prop := Keep prog w B (.ref a) ∧ CallsV prog w B l (.ref a) args H k

/-- a comparison that no plain rule serves -/
noncomputable def CmpS (op : CmpOp) (a b : PV) (H : AHeap) (k : PV → AHeap → Prop) : Prop :=
  ∀ (A : Around) (s : Shared) (E Q : Value → Shared → Prop) (u v : Value), A.handled = none → A.units ≤ 9000 → WF prog w B H s.heap → V B s.heap a u → V B s.heap b v → Hand prog w B NoX s H k Q →
    wpAny (model prog w) A (compareOp op u v) Q E s
end

/-! leaves of W -/
noncomputable def constPV : Const → Option PV
  | .none => some .none
  | .bool b => some (.bool b)
  | .int i => some (.int i)
  | .str s => some (.str s.cps.toList)
  | .bytes b => some (.bytes (b.map (·.toNat)))
  | _ => none

noncomputable def intBin (op : Operator) (a b : Int) (k : Int → Prop) : Prop := match op with
  | .Add => k (a + b)
  | .Sub => k (a - b)
  | .Mult => (-(2 ^ 64) < a ∧ a < 2 ^ 64) ∧ k (a * b)
  | .FloorDiv => (0 < b ∧ b < 1073741824) ∧ k (a / b)
  | .Mod => 0 < b ∧ k (a % b)
  | .Pow => (a = 10 ∧ b = 400) ∧ k (10 ^ 400)
  | .RShift => 0 ≤ b ∧ k (a / 2 ^ b.toNat)
  | _ => False

noncomputable def binW (op : Operator) (a b : PV) (H : AHeap) (k : PV → AHeap → Prop) : Prop := match a, b with
  | .int x, .int y => intBin op x y fun z => k (.int z) H
  | .bytes x, .bytes y => match op with | .Add => x.length + y.length ≤ 16777216 ∧ k (.bytes (x ++ y)) H | _ => False
  | .str x, .str y => match op with | .Add => x.length + y.length ≤ 16777216 ∧ k (.str (x ++ y)) H | _ => False
  | _, _ => False

noncomputable def truthW (v : PV) (H : AHeap) (k : Bool → AHeap → Prop) : Prop := match v with
  | .none => k false H
  | .bool b => k b H
  | .int i => k (i != 0) H
  | .str l => l.length ≤ 16777216 ∧ k (l.length != 0) H
  | .bytes l => l.length ≤ 16777216 ∧ k (l.length != 0) H
  | .ref a => match H a with
    | some (.list l) => l.length ≤ 16777216 ∧ k (l.length != 0) H
    | _ => False
  | _ => False

noncomputable def PV.isNone : PV → Bool
  | .none => true
  | _ => false
section
variable (prog : Program) (w : World) (B : Heap)

noncomputable def intCmp (op : CmpOp) (a b : Int) : Option Bool := match op with
  | .Eq => some (decide (a = b))
  | .NotEq => some (!decide (a = b))
  | .Lt => some (decide (a < b))
  | .LtE => some (decide (a ≤ b))
  | .Gt => some (decide (b < a))
  | .GtE => some (decide (b ≤ a))
  | _ => none

noncomputable def cmpW (op : CmpOp) (a b : PV) (H : AHeap) (k : PV → AHeap → Prop) : Prop := match b with
  | .none => (match op with | .Is => k (.bool a.isNone) H | _ => CmpS prog w B op a .none H k)
  | .int y => (match a with | .int x => (match intCmp op x y with | some c => k (.bool c) H | none => False) | _ => CmpS prog w B op a (.int y) H k)
  | .str y => (match a with | .str x => (match op with | .Eq => k (.bool (decide (x = y))) H | .NotEq => k (.bool (!decide (x = y))) H | _ => CmpS prog w B op (.str x) (.str y) H k) | _ => CmpS prog w B op a (.str y) H k)
  | .bytes y => (match a with | .bytes x => (match op with | .Eq => k (.bool (decide (x = y))) H | .NotEq => k (.bool (!decide (x = y))) H | _ => CmpS prog w B op (.bytes x) (.bytes y) H k) | _ => CmpS prog w B op a (.bytes y) H k)
  | y => CmpS prog w B op a y H k
end

/-- the items that a for walks over, and the list in H that must stay -/
noncomputable def itemsW (v : PV) (H : AHeap) (k : List PV → Option (Addr × AObj) → Prop) : Prop := match v with
  | .bytes l => l.length ≤ 16777216 ∧ k (l.map fun (c : Nat) => .int c) none
  | .str l => (l.length ≤ 16777216 ∧ ∀ c ∈ l, c < 1114112) ∧ k (l.map fun c => .str [c]) none
  | .tup l => k l none
  | .ref a => match H a with
    | some (.list l) => k l (some (a, .list l))
    | some (.sdict kvs ep) => kvs.length ≤ 1000000 ∧ k (kvs.map fun p => .str p.1) (some (a, .sdict kvs ep))
    | _ => False
  | .flist l => k l none
  | .rng a b => (0 ≤ a ∧ a < 1000000 ∧ -1000000 < b ∧ b < 1000000) ∧ k ((List.range (b - a).toNat).map fun (i : Nat) => .int (a + i)) none
  | _ => False

noncomputable def srcOk (src : Option (Addr × AObj)) (H : AHeap) : Prop := match src with
  | none => True
  | some (a, o) => H a = some o

noncomputable def WForF (step : PV → Loc → AHeap → (Fl → Loc → AHeap → Prop) → Prop) (src : Option (Addr × AObj)) (K : Fl → Loc → AHeap → Prop) : List PV → Loc → AHeap → Prop
  | [], m, H => K .next m H
  | x :: xs, m, H => step x m H fun fl m' H' => match fl with
    | .next => srcOk src H' ∧ WForF step src K xs m' H'
    | .cont => srcOk src H' ∧ WForF step src K xs m' H'
    | .brk => K .next m' H'
    | .ret v => K (.ret v) m' H'

-- M3

noncomputable def joinL (sep : List Nat) : List (List Nat) → List Nat
  | [] => []
  | [x] => x
  | x :: y :: r => x ++ sep ++ joinL sep (y :: r)
theorem joinL_e0 {sep : List Nat} : joinL sep [] = [] := rfl
theorem joinL_e1 {sep x : List Nat} : joinL sep [x] = x := rfl
theorem joinL_e2 {sep x y : List Nat} {r : List (List Nat)} : joinL sep (x :: y :: r) = x ++ sep ++ joinL sep (y :: r) := rfl
noncomputable def strsOf : List PV → Option (List (List Nat))
  | [] => some []
  | .str x :: r => (strsOf r).map (x :: ·)
  | _ => Option.none
noncomputable def bytesOf : List PV → Option (List (List Nat))
  | [] => some []
  | .bytes x :: r => (bytesOf r).map (x :: ·)
  | _ => Option.none
noncomputable def intsOf : List PV → Option (List Int)
  | [] => some []
  | .int x :: r => (intsOf r).map (x :: ·)
  | _ => Option.none
noncomputable def splitMax (c : Nat) : Nat → List Nat → List (List Nat)
  | 0, l => [l]
  | n + 1, l => if c ∈ l then l.takeWhile (· != c) :: splitMax c n ((l.dropWhile (· != c)).drop 1) else [l]
theorem splitMax_z {c : Nat} {l : List Nat} : splitMax c 0 l = [l] := rfl
theorem splitMax_s {c n : Nat} {l : List Nat} : splitMax c (n + 1) l = if c ∈ l then l.takeWhile (· != c) :: splitMax c n ((l.dropWhile (· != c)).drop 1) else [l] := rfl
noncomputable def clipI (n : Nat) (v : Int) : Nat := if v < 0 then (n + v).toNat else min v.toNat n
noncomputable def partI (n : Nat) (d : Nat) : PV → Option Nat
  | .none => some d
  | .int v => some (clipI n v)
  | _ => Option.none
noncomputable def cut {α : Type} (l : List α) (lo hi : Nat) : List α := (l.drop lo).take (hi - lo)

noncomputable def newW (o : AObj) (H : AHeap) (k : PV → AHeap → Prop) : Prop := ∀ a, H a = none → k (.ref a) (H.set a o)

noncomputable def sput (kvs : List (List Nat × PV)) (x : List Nat) (v : PV) : List (List Nat × PV) :=
  if kvs.any (fun p => decide (p.1 = x)) then kvs.map (fun p => if p.1 = x then (p.1, v) else p) else kvs ++ [(x, v)]
noncomputable def iput (kvs : List (Int × PV)) (x : Int) (v : PV) : List (Int × PV) :=
  if kvs.any (fun p => decide (p.1 = x)) then kvs.map (fun p => if p.1 = x then (p.1, v) else p) else kvs ++ [(x, v)]
noncomputable def sget (kvs : List (List Nat × PV)) (x : List Nat) : Option PV := (kvs.find? fun p => decide (p.1 = x)).map (·.2)
noncomputable def iget (kvs : List (Int × PV)) (x : Int) : Option PV := (kvs.find? fun p => decide (p.1 = x)).map (·.2)
noncomputable def aget (kvs : List (Str × PV)) (x : Str) : Option PV := (kvs.find? fun p => decide (p.1 = x)).map (·.2)
noncomputable def aput : List (Str × PV) → Str → PV → List (Str × PV)
  | [], x, v => [(x, v)]
  | p :: r, x, v => if p.1 = x then (p.1, v) :: r else p :: aput r x v

theorem aput_nil {x : Str} {v : PV} : aput [] x v = [(x, v)] := rfl
theorem aput_cons {p : Str × PV} {r : List (Str × PV)} {x : Str} {v : PV} : aput (p :: r) x v = if p.1 = x then (p.1, v) :: r else p :: aput r x v := rfl
noncomputable def curC : Addr := 155
noncomputable def curAttrs : List Str := ["data", "at", "end"]
noncomputable def curMeths : List (Str × Addr) := [("is_done", 95), ("peek", 103), ("take", 110)]

section
variable (prog : Program) (w : World) (B : Heap) (gl : Str → Option PV)

/-- a call of a builtin -/
inductive BiW (H : AHeap) (k : PV → AHeap → Prop) : String → List PV → Prop
  | lenb {x : List Nat} (c : x.length ≤ 16777216) (h : k (.int x.length) H) : BiW H k "len" [.bytes x]
  | lens {x : List Nat} (c : x.length ≤ 16777216) (h : k (.int x.length) H) : BiW H k "len" [.str x]
  | lenl {a : Addr} {x : List PV} (e : H a = some (.list x)) (c : x.length ≤ 16777216) (h : k (.int x.length) H) : BiW H k "len" [.ref a]
  | ord {c : Nat} (h : k (.int c) H) : BiW H k "ord" [.str [c]]
  | chr {i : Int} (c : 0 ≤ i ∧ i < 1114112) (h : k (.str [i.toNat]) H) : BiW H k "chr" [.int i]
  | abs {i : Int} (h : k (.int i.natAbs) H) : BiW H k "abs" [.int i]
  | min {i j : Int} (h : k (.int (min i j)) H) : BiW H k "min" [.int i, .int j]
  | append {a : Addr} {x : List PV} {v : PV} (e : H a = some (.list x)) (c : x.length ≤ 16777216) (h : k .none (H.set a (.list (x ++ [v])))) : BiW H k "list.append" [.ref a, v]
  | insert {a : Addr} {x : List PV} {i : Int} {v : PV} (e : H a = some (.list x)) (c : x.length ≤ 16777216 ∧ 0 ≤ i ∧ i ≤ x.length) (h : k .none (H.set a (.list (x.take i.toNat ++ v :: x.drop i.toNat)))) : BiW H k "list.insert" [.ref a, .int i, v]
  | sjoin {sep : List Nat} {a : Addr} {x : List PV} {ps : List (List Nat)} (e : H a = some (.list x)) (q : strsOf x = some ps) (c : (joinL sep ps).length ≤ 1000000 ∧ x.length ≤ 1000000 ∧ sep.length ≤ 1000) (h : k (.str (joinL sep ps)) H) : BiW H k "str.join" [.str sep, .ref a]
  | bjoin {sep : List Nat} {a : Addr} {x : List PV} {ps : List (List Nat)} (e : H a = some (.list x)) (q : bytesOf x = some ps) (c : (joinL sep ps).length ≤ 1000000 ∧ x.length ≤ 1000000) (h : k (.bytes (joinL sep ps)) H) : BiW H k "bytes.join" [.bytes sep, .ref a]
  | split {x : List Nat} {c : Nat} {n : Int} (z : x.length ≤ 1000000 ∧ 0 ≤ n ∧ n < 1000) (h : newW (.list ((splitMax c n.toNat x).map .bytes)) H k) : BiW H k "bytes.split" [.bytes x, .bytes [c], .int n]
  | find {x : List Nat} {c : Nat} (z : x.length ≤ 1000000) (h : k (.int (if c ∈ x then (x.idxOf c : Int) else -1)) H) : BiW H k "str.find" [.str x, .str [c]]
  | index {x : List Nat} {c : Int} (z : x.length ≤ 1000000 ∧ 0 ≤ c ∧ c < 256 ∧ c.toNat ∈ x) (h : k (.int (x.idxOf c.toNat)) H) : BiW H k "bytes.index" [.bytes x, .int c]
  | gets {a : Addr} {kvs : List (List Nat × PV)} {n : Nat} {x : List Nat} {d : PV} (e : H a = some (.sdict kvs n)) (h : k ((sget kvs x).getD d) H) : BiW H k "dict.get" [.ref a, .str x, d]
  | geti {a : Addr} {kvs : List (Int × PV)} {x : Int} {d : PV} (e : H a = some (.idict kvs)) (h : k ((iget kvs x).getD d) H) : BiW H k "dict.get" [.ref a, .int x, d]
/-- of a type -/
inductive TyW (H : AHeap) (k : PV → AHeap → Prop) : String → List PV → Prop
  | bytes {a : Addr} {x : List PV} {ns : List Int} (e : H a = some (.list x)) (q : intsOf x = some ns) (c : x.length ≤ 1000000 ∧ ∀ n ∈ ns, 0 ≤ n ∧ n < 256) (h : k (.bytes (ns.map Int.toNat)) H) : TyW H k "bytes" [.ref a]
  | int {i : Int} (h : k (.int i) H) : TyW H k "int" [.int i]
  | range1 {b : Int} (h : k (.rng 0 b) H) : TyW H k "range" [.int b]
  | range2 {a b : Int} (h : k (.rng a b) H) : TyW H k "range" [.int a, .int b]

/-- what is called, and with what ahead of the arguments -/
noncomputable def callW (l : Nat) (f : PV) (args : List PV) (H : AHeap) (k : PV → AHeap → Prop) : Prop := match f with
  | .ref a => Call prog w B l a args H k
  | .bi id => BiW H k id args
  | .ty n => TyW H k n args
  | _ => False

/-- the method that a name means -/
noncomputable def methW (ov : PV) (name : Str) (H : AHeap) : Option PV := match ov with
  | .str _ => if name = "join" then some (.bi "str.join") else if name = "find" then some (.bi "str.find") else Option.none
  | .bytes _ => if name = "join" then some (.bi "bytes.join") else if name = "split" then some (.bi "bytes.split") else if name = "index" then some (.bi "bytes.index") else Option.none
  | .ref a => match H a with
    | some (.list _) => if name = "append" then some (.bi "list.append") else if name = "insert" then some (.bi "list.insert") else Option.none
    | some (.sdict _ _) => if name = "get" then some (.bi "dict.get") else Option.none
    | some (.idict _) => if name = "get" then some (.bi "dict.get") else Option.none
    | some (.inst C dx) => if C = curC then (match H dx with
      | some (.attrs kvs) => if (aget kvs name).isNone then (curMeths.lookup name).map .ref else Option.none
      | _ => Option.none) else Option.none
    | _ => Option.none
  | _ => Option.none

noncomputable def attrW (ov : PV) (name : Str) (H : AHeap) (k : PV → Prop) : Prop := match ov with
  | .ref a => match H a with
    | some (.inst C dx) => C = curC ∧ name ∈ curAttrs ∧ (match H dx with
      | some (.attrs kvs) => (match aget kvs name with | some (.bytes b) => k (.bytes b) | some (.int b) => k (.int b) | _ => False)
      | _ => False)
    | _ => False
  | _ => False

noncomputable def setAttrW (ov : PV) (name : Str) (v : PV) (H : AHeap) (k : AHeap → Prop) : Prop := match ov with
  | .ref a => match H a with
    | some (.inst C dx) => C = curC ∧ name ∈ curAttrs ∧ (match H dx with
      | some (.attrs kvs) => kvs.length ≤ 900 ∧ k (H.set dx (.attrs (aput kvs name v)))
      | _ => False)
    | _ => False
  | _ => False

/-- an item is read -/
inductive ItemW (H : AHeap) (k : PV → AHeap → Prop) : PV → PV → Prop
  | bytes {x : List Nat} {n : Int} (c : x.length ≤ 16777216 ∧ 0 ≤ n ∧ n < x.length) (h : k (.int (x.getD n.toNat 0)) H) : ItemW H k (.bytes x) (.int n)
  | str {x : List Nat} {n : Int} {j : Nat} (c : (decide (n < -(2 ^ 63 : Int)) || decide (n ≥ 2 ^ 63)) = false) (q : seqIndex? n x.length = some j) (lt : j < x.length) (h : k (.str [x.getD j 0]) H) : ItemW H k (.str x) (.int n)
  | list {a : Addr} {x : List PV} {n : Int} (e : H a = some (.list x)) (c : x.length ≤ 16777216 ∧ 0 ≤ n ∧ n < x.length) (h : k (x.getD n.toNat .none) H) : ItemW H k (.ref a) (.int n)
  | last {a : Addr} {x : List PV} (e : H a = some (.list x)) (c : x.length ≤ 16777216 ∧ 0 < x.length) (h : k (x.getD (x.length - 1) .none) H) : ItemW H k (.ref a) (.int (-1))
  | idict {a : Addr} {kvs : List (Int × PV)} {n : Int} {v : PV} (e : H a = some (.idict kvs)) (g : iget kvs n = some v) (h : k v H) : ItemW H k (.ref a) (.int n)
  | sdict {a : Addr} {kvs : List (List Nat × PV)} {ep : Nat} {x : List Nat} {v : PV} (e : H a = some (.sdict kvs ep)) (g : sget kvs x = some v) (h : k v H) : ItemW H k (.ref a) (.str x)
abbrev itemW (o i : PV) (H : AHeap) (k : PV → AHeap → Prop) : Prop := ItemW H k o i
/-- a slice -/
inductive SliceW (H : AHeap) (k : PV → AHeap → Prop) : PV → PV → PV → PV → Prop
  | bytes {x : List Nat} {lo hi : PV} {i j : Nat} (e1 : partI x.length 0 lo = some i) (e2 : partI x.length x.length hi = some j) (z : x.length ≤ 1000000) (h : k (.bytes (cut x i j)) H) : SliceW H k (.bytes x) lo hi .none
  | str {x : List Nat} {lo hi : PV} {i j : Nat} (e1 : partI x.length 0 lo = some i) (e2 : partI x.length x.length hi = some j) (z : x.length ≤ 1000000) (h : k (.str (cut x i j)) H) : SliceW H k (.str x) lo hi .none
  | flist {x : List PV} {lo hi : PV} {i j : Nat} (e1 : partI x.length 0 lo = some i) (e2 : partI x.length x.length hi = some j) (z : x.length ≤ 1000000) (h : newW (.list (cut x i j)) H k) : SliceW H k (.flist x) lo hi .none
  | rev {a : Addr} {x : List PV} (e : H a = some (.list x)) (z : x.length ≤ 1000000) (h : newW (.list x.reverse) H k) : SliceW H k (.ref a) .none .none (.int (-1))
abbrev sliceW (o lo hi st : PV) (H : AHeap) (k : PV → AHeap → Prop) : Prop := SliceW H k o lo hi st
/-- an item is laid -/
inductive SetItemW (v : PV) (H : AHeap) (k : AHeap → Prop) : PV → PV → Prop
  | list {a : Addr} {x : List PV} {n : Int} {j : Nat} (e : H a = some (.list x)) (c : -(2 ^ 63 : Int) ≤ n ∧ n < 2 ^ 63) (q : seqIndex? n x.length = some j) (lt : j < x.length) (h : k (H.set a (.list (x.set j v)))) : SetItemW v H k (.ref a) (.int n)
  | idict {a : Addr} {kvs : List (Int × PV)} {n : Int} (e : H a = some (.idict kvs)) (z : kvs.length ≤ 1000000) (h : k (H.set a (.idict (iput kvs n v)))) : SetItemW v H k (.ref a) (.int n)
  | idict0 {a : Addr} {n : Int} {ep : Nat} (e : H a = some (.sdict [] ep)) (h : k (H.set a (.idict [(n, v)]))) : SetItemW v H k (.ref a) (.int n)
  | sdict {a : Addr} {kvs : List (List Nat × PV)} {ep : Nat} {x : List Nat} (e : H a = some (.sdict kvs ep)) (z : kvs.length ≤ 1000000) (h : ∀ ep', k (H.set a (.sdict (sput kvs x v) ep'))) : SetItemW v H k (.ref a) (.str x)
abbrev setItemW (o i v : PV) (H : AHeap) (k : AHeap → Prop) : Prop := SetItemW v H k o i

/-- cmpW with the containers -/
noncomputable def inI (x : Int) (b : PV) (H : AHeap) (k : PV → AHeap → Prop) : Prop := match b with
  | .tup l => (match intsOf l with | some ns => k (.bool (decide (x ∈ ns))) H | Option.none => False)
  | .bytes l => (l.length ≤ 1000000 ∧ 0 ≤ x ∧ x < 256) ∧ k (.bool (decide (x.toNat ∈ l))) H
  | .ref a => (match H a with | some (.idict kvs) => k (.bool (iget kvs x).isSome) H | some (.sdict [] _) => k (.bool false) H | _ => False)
  | _ => False
noncomputable def ninI (x : Int) (b : PV) (H : AHeap) (k : PV → AHeap → Prop) : Prop := match b with
  | .tup l => (match intsOf l with | some ns => k (.bool (!decide (x ∈ ns))) H | Option.none => False)
  | .bytes l => (l.length ≤ 1000000 ∧ 0 ≤ x ∧ x < 256) ∧ k (.bool (!decide (x.toNat ∈ l))) H
  | .ref a => (match H a with | some (.idict kvs) => k (.bool (!(iget kvs x).isSome)) H | some (.sdict [] _) => k (.bool true) H | _ => False)
  | _ => False
noncomputable def inS (x : List Nat) (b : PV) (H : AHeap) (k : PV → AHeap → Prop) : Prop := match b with
  | .tup l => (match strsOf l with | some ns => k (.bool (decide (x ∈ ns))) H | Option.none => False)
  | .ref a => (match H a with | some (.sdict kvs _) => k (.bool (sget kvs x).isSome) H | _ => False)
  | _ => False
noncomputable def ninS (x : List Nat) (b : PV) (H : AHeap) (k : PV → AHeap → Prop) : Prop := match b with
  | .tup l => (match strsOf l with | some ns => k (.bool (!decide (x ∈ ns))) H | Option.none => False)
  | .ref a => (match H a with | some (.sdict kvs _) => k (.bool (!(sget kvs x).isSome)) H | _ => False)
  | _ => False
noncomputable def cmpH (op : CmpOp) (a b : PV) (H : AHeap) (k : PV → AHeap → Prop) : Prop := match op with
  | .In => (match a with | .int x => inI x b H k | .str x => inS x b H k | _ => False)
  | .NotIn => (match a with | .int x => ninI x b H k | .str x => ninS x b H k | _ => False)
  | op => cmpW prog w B op a b H k

noncomputable def isLoc (sc : Scope) (x : Str) : Bool := sc.names.lookup x == some .local
noncomputable def isGlb (sc : Scope) (x : Str) : Bool := sc.names.lookup x == some .globalImplicit
noncomputable def isCel (sc : Scope) (x : Str) : Bool := sc.names.lookup x == some .cell

noncomputable def nameW (sc : Scope) (m : Loc) (x : Str) (H : AHeap) (k : PV → AHeap → Prop) : Prop :=
  bif isGlb sc x then (match gl x with | some v => k v H | Option.none => False) else (match m x with | some v => k v H | Option.none => False)

noncomputable def relabelS (scope sc : Scope) : Scope :=
  { scope with names := scope.names.map fun (n, k) => if (k == .free && sc.kind == .function && sc.names.lookup n == some .cell) then (n, .cell) else (n, k) }
noncomputable def compLoc (scope : Scope) (m : Loc) : Loc := fun x => if scope.names.lookup x = some .free then m x else Option.none

noncomputable def baseOk : Expr → Bool
  | .Call (.Name id _) [] [] _ => id != ("super" : Str)
  | _ => true
noncomputable def notStar (e : Expr) : Bool := !Nat.beq e.ctorIdx 22
noncomputable def okArgs (es : List Expr) : Bool := decide (es.length < 20) && es.all notStar
noncomputable def notSet (e : Expr) : Bool := !Nat.beq e.ctorIdx 7
noncomputable def notComp (e : Expr) : Bool := !(Nat.beq e.ctorIdx 8 || Nat.beq e.ctorIdx 9 || Nat.beq e.ctorIdx 10)
noncomputable def isName : Expr → Bool
  | .Name .. => true
  | _ => false
noncomputable def notSlice (e : Expr) : Bool := !Nat.beq e.ctorIdx 26

noncomputable def swapFree (t value : Expr) : Bool := match t, value with
  | .Tuple ts _ _, .Tuple vs _ _ => vs.all (foldedForSure 8)
  | .List .., _ => false
  | .Starred .., _ => false
  | _, _ => true

end

-- M4

section
variable {prog : Program} {w : World} {B : Heap} {A : Around} {E : Value → Shared → Prop} {s : Shared} {H : AHeap}

noncomputable def HandB (prog : Program) (w : World) (B : Heap) (X : Addr → Prop) (s : Shared) (H : AHeap) (k : Bool → AHeap → Prop) (Q : Bool → Shared → Prop) : Prop :=
  ∀ c H' s', Same s s' → Step X H s.heap H' s'.heap → WF prog w B H' s'.heap → k c H' → Q c s'
noncomputable def HandU (prog : Program) (w : World) (B : Heap) (X : Addr → Prop) (s : Shared) (H : AHeap) (k : AHeap → Prop) (Q : Unit → Shared → Prop) : Prop :=
  ∀ H' s', Same s s' → Step X H s.heap H' s'.heap → WF prog w B H' s'.heap → k H' → Q () s'

theorem Same.toks (s : Shared) (h : Heap) (t : Nat) : Same s { s with heap := h, toks := t } := ⟨rfl, rfl, rfl⟩
theorem Hand.same {X : Addr → Prop} {k : PV → AHeap → Prop} {Q : Value → Shared → Prop} (P : Hand prog w B X s H k Q) (W : WF prog w B H s.heap) {pv : PV} {v : Value} {t : Nat} (v' : V B s.heap pv v) (h : k pv H) : Q v { s with toks := t } :=
  P pv v H _ ⟨rfl, rfl, rfl⟩ (.refl _ _ _) W v' h
theorem Hand.here {X : Addr → Prop} {k : PV → AHeap → Prop} {Q : Value → Shared → Prop} (P : Hand prog w B X s H k Q) (W : WF prog w B H s.heap) {pv : PV} {v : Value} (v' : V B s.heap pv v) (h : k pv H) : Q v s :=
  P pv v H _ ⟨rfl, rfl, rfl⟩ (.refl _ _ _) W v' h
theorem HandB.same {X : Addr → Prop} {k : Bool → AHeap → Prop} {Q : Bool → Shared → Prop} (P : HandB prog w B X s H k Q) (W : WF prog w B H s.heap) {c : Bool} {t : Nat} (h : k c H) : Q c { s with toks := t } :=
  P c H _ ⟨rfl, rfl, rfl⟩ (.refl _ _ _) W h
theorem Hand.grown {X : Addr → Prop} {k : PV → AHeap → Prop} {Q : Value → Shared → Prop} (P : Hand prog w B X s H k Q) (W : WF prog w B H s.heap) {pv : PV} {v : Value} {t : Nat} {h' : Heap}
    (g : ∀ b o, s.heap.get? b = some o → h'.get? b = some o) (v' : V B h' pv v) (h : k pv H) : Q v { s with heap := h', toks := t } :=
  P pv v H _ ⟨rfl, rfl, rfl⟩ (.keeps g) (W.keeps g) v' h

theorem V_int {h : Heap} {i : Int} {v : Value} : V B h (.int i) v ↔ ∃ t, v = .int i t := .rfl
theorem V_bool {h : Heap} {i : Bool} {v : Value} : V B h (.bool i) v ↔ v = .bool i := .rfl
theorem V_none {h : Heap} {v : Value} : V B h .none v ↔ v = .none := .rfl
theorem V_str {h : Heap} {l : List Nat} {v : Value} : V B h (.str l) v ↔ ∃ t, v = .str ⟨l.toArray⟩ t := .rfl
theorem V_bytes {h : Heap} {l : List Nat} {v : Value} : V B h (.bytes l) v ↔ ∃ arr t, v = .bytes arr t ∧ arr.toList.map (·.toNat) = l := .rfl
theorem V_tup {h : Heap} {l : List PV} {v : Value} : V B h (.tup l) v ↔ ∃ a vs, v = .ref a ∧ IsTup h a vs.toArray ∧ VL B h l vs := .rfl
theorem V_ref {h : Heap} {a : Addr} {v : Value} : V B h (.ref a) v ↔ v = .ref a := .rfl
theorem V_bi {h : Heap} {a : String} {v : Value} : V B h (.bi a) v ↔ v = .builtin a := .rfl
theorem V_ty {h : Heap} {a : String} {v : Value} : V B h (.ty a) v ↔ v = .type a := .rfl
theorem V_rng {h : Heap} {a b : Int} {v : Value} : V B h (.rng a b) v ↔ ∃ r t u x, v = .ref r ∧ IsRange h r a b 1 t u x := .rfl
theorem V_flist {h : Heap} {l : List PV} {v : Value} : V B h (.flist l) v ↔ ∃ a vs, v = .ref a ∧ B.IsList a vs.toArray ∧ VL B h l vs := .rfl
theorem VL_nil {h : Heap} {vs : List Value} : VL B h [] vs ↔ vs = [] := .rfl
theorem VL_cons {h : Heap} {p : PV} {ps : List PV} {vs : List Value} : VL B h (p :: ps) vs ↔ ∃ v r, vs = v :: r ∧ V B h p v ∧ VL B h ps r := .rfl
theorem VL.length {h : Heap} : ∀ {ps : List PV} {vs : List Value}, VL B h ps vs → vs.length = ps.length
  | [], _, x => by rw [VL_nil] at x; subst x; rfl
  | p :: ps, _, x => by
    obtain ⟨v, r, rfl, _, b⟩ := VL_cons.mp x
    exact congrArg Nat.succ (VL.length b)
theorem VL.append {h : Heap} : ∀ {ps qs : List PV} {vs us : List Value}, VL B h ps vs → VL B h qs us → VL B h (ps ++ qs) (vs ++ us)
  | [], _, _, _, x, y => by rw [VL_nil] at x; rw [x]; exact y
  | p :: ps, qs, _, us, x, y => by
    obtain ⟨v, r, rfl, a, b⟩ := VL_cons.mp x
    exact VL_cons.mpr ⟨v, r ++ us, rfl, a, VL.append b y⟩
theorem VL.get {h : Heap} : ∀ {ps : List PV} {vs : List Value}, VL B h ps vs → ∀ {i : Nat} {p : PV}, ps[i]? = some p → ∃ v, vs[i]? = some v ∧ V B h p v
  | [], _, _, i, p, e => by simp at e
  | q :: ps, _, x, i, p, e => by
    obtain ⟨v, r, rfl, a, b⟩ := VL_cons.mp x
    cases i with
    | zero => simp at e; subst e; exact ⟨v, rfl, a⟩
    | succ i => simp at e ⊢; exact VL.get b e
theorem VL.drop {h : Heap} : ∀ {ps : List PV} {vs : List Value} (n : Nat), VL B h ps vs → VL B h (ps.drop n) (vs.drop n)
  | _, _, 0, x => x
  | [], _, n + 1, x => by rw [VL_nil] at x; subst x; simp [VL_nil]
  | p :: ps, _, n + 1, x => by
    obtain ⟨v, r, rfl, a, b⟩ := VL_cons.mp x
    exact VL.drop n b
theorem VL.take {h : Heap} : ∀ {ps : List PV} {vs : List Value} (n : Nat), VL B h ps vs → VL B h (ps.take n) (vs.take n)
  | _, _, 0, x => by simp [VL_nil]
  | [], _, n + 1, x => by rw [VL_nil] at x; subst x; simp [VL_nil]
  | p :: ps, _, n + 1, x => by
    obtain ⟨v, r, rfl, a, b⟩ := VL_cons.mp x
    exact VL_cons.mpr ⟨v, _, rfl, a, VL.take n b⟩
theorem VL.set {h : Heap} {q : PV} {u : Value} (hu : V B h q u) : ∀ {ps : List PV} {vs : List Value} (n : Nat), VL B h ps vs → VL B h (ps.set n q) (vs.set n u)
  | [], _, n, x => by rw [VL_nil] at x; subst x; simp [VL_nil]
  | p :: ps, _, 0, x => by
    obtain ⟨v, r, rfl, a, b⟩ := VL_cons.mp x
    exact VL_cons.mpr ⟨u, r, rfl, hu, b⟩
  | p :: ps, _, n + 1, x => by
    obtain ⟨v, r, rfl, a, b⟩ := VL_cons.mp x
    exact VL_cons.mpr ⟨v, _, rfl, a, VL.set hu n b⟩
theorem VL.reverse {h : Heap} : ∀ {ps : List PV} {vs : List Value}, VL B h ps vs → VL B h ps.reverse vs.reverse
  | [], _, x => by rw [VL_nil] at x; subst x; simp [VL_nil]
  | p :: ps, _, x => by
    obtain ⟨v, r, rfl, a, b⟩ := VL_cons.mp x
    simp only [List.reverse_cons]
    exact VL.append (VL.reverse b) (VL_cons.mpr ⟨v, [], rfl, a, VL_nil.mpr rfl⟩)
theorem VL.ints {h : Heap} : ∀ {ps : List PV} {vs : List Value} {ns : List Int}, VL B h ps vs → intsOf ps = some ns → IntsAre vs ns
  | [], _, _, x, e => by rw [VL_nil] at x; subst x; cases e; exact .nil
  | p :: ps, _, _, x, e => by
    obtain ⟨v, r, rfl, a, b⟩ := VL_cons.mp x
    cases p <;> try cases e
    rename_i i
    unfold intsOf at e
    cases q : intsOf ps with
    | none => rw [q] at e; cases e
    | some ns =>
      rw [q] at e; cases e
      obtain ⟨t, rfl⟩ := V_int.mp a
      exact .cons _ _ (VL.ints b q)

theorem toNat_inj : ∀ {a b : List UInt8}, a.map (·.toNat) = b.map (·.toNat) → a = b
  | [], [], _ => rfl
  | [], _ :: _, e => by simp at e
  | _ :: _, [], e => by simp at e
  | x :: a, y :: b, e => by
    simp only [List.map_cons, List.cons.injEq] at e
    rw [toNat_inj e.2, UInt8.toNat_inj.mp e.1]
theorem bytes_dec (x y : Array UInt8) : (x.toList == y.toList) = decide (x.toList.map (·.toNat) = y.toList.map (·.toNat)) := by
  by_cases h : x.toList = y.toList
  · rw [h]; simp
  · have : ¬ x.toList.map (·.toNat) = y.toList.map (·.toNat) := fun e => h (toNat_inj e)
    rw [decide_eq_false this]; exact beq_eq_false_iff_ne.mpr h
theorem beq_dec {α : Type} [BEq α] [LawfulBEq α] [DecidableEq α] (x y : α) : (x == y) = decide (x = y) := by
  by_cases h : x = y
  · simp [h]
  · rw [decide_eq_false h]; exact beq_eq_false_iff_ne.mpr h
theorem size_of_map {arr : Array UInt8} {l : List Nat} (e : arr.toList.map (·.toNat) = l) : arr.size = l.length := by rw [← e]; simp

theorem intMul_ok {a b : Int} (h1 : -(2 ^ 64) < a) (h2 : a < 2 ^ 64) : IntMulOk a b := IntMulOk.of_left (intBits_le_64 h1 h2)

theorem bin_ok {op : Operator} {a b : PV} {u v : Value} {k : PV → AHeap → Prop} {Q : Value → Shared → Prop} (W : WF prog w B H s.heap) (hu : V B s.heap a u) (hv : V B s.heap b v) (P : Hand prog w B NoX s H k Q)
    (h : binW op a b H k) : wpAny (model prog w) A (binaryOp op u v) Q E s := by
  unfold binW at h
  split at h
  · obtain ⟨t, rfl⟩ := V_int.mp hu
    obtain ⟨t', rfl⟩ := V_int.mp hv
    unfold intBin at h
    split at h
    · exact PySem.P.add_int (P.same W (V_int.mpr ⟨_, rfl⟩) h)
    · exact PySem.P.sub_int (P.same W (V_int.mpr ⟨_, rfl⟩) h)
    · exact PySem.P.mul_int (P.same W (V_int.mpr ⟨_, rfl⟩) h.2) (intMul_ok h.1.1 h.1.2)
    · rename_i x y
      obtain ⟨⟨h1, h2⟩, h3⟩ := h
      refine PyProof.Rows.floordiv_int (by omega) ?_ (Or.inl (PyProof.noPylong_small (by omega)))
      rw [Int.fdiv_eq_ediv_of_nonneg _ (by omega)]
      exact P.same W (V_int.mpr ⟨_, rfl⟩) h3
    · rename_i x y
      obtain ⟨h1, h3⟩ := h
      refine PyProof.Rows.mod_int' (by omega) ?_
      rw [Int.fmod_eq_emod_of_nonneg _ (by omega)]
      exact P.same W (V_int.mpr ⟨_, rfl⟩) h3
    · obtain ⟨⟨rfl, rfl⟩, h3⟩ := h
      exact PyProof.Rows.pow_int (by decide) (by decide +kernel) (P.same W (V_int.mpr ⟨_, rfl⟩) h3)
    · rename_i x y
      obtain ⟨h1, h3⟩ := h
      refine PyProof.Rows.rshift_int h1 ?_
      rw [Int.fdiv_eq_ediv_of_nonneg _ (Int.pow_nonneg (by decide))]
      exact P.same W (V_int.mpr ⟨_, rfl⟩) h3
    · exact h.elim
  · split at h
    · obtain ⟨x, t, rfl, ex⟩ := V_bytes.mp hu
      obtain ⟨y, t', rfl, ey⟩ := V_bytes.mp hv
      refine KBy.add_bytes (by rw [size_of_map ex, size_of_map ey]; exact h.1) fun t' n => P.same W (V_bytes.mpr ⟨_, _, rfl, ?_⟩) h.2
      rw [Array.toList_append, List.map_append, ex, ey]
    · exact h.elim
  · split at h
    · obtain ⟨t, rfl⟩ := V_str.mp hu
      obtain ⟨t', rfl⟩ := V_str.mp hv
      rename_i x y _
      refine PySem.P.add_str ?_
      by_cases hx : x = []
      · subst hx
        exact P.here W (V_str.mpr ⟨_, rfl⟩) h.2
      · by_cases hy : y = []
        · subst hy
          have : (Str.length ⟨x.toArray⟩ == 0) = false := by
            cases x with
            | nil => exact absurd rfl hx
            | cons _ _ => rfl
          rw [this]
          have e := h.2
          rw [List.append_nil] at e
          exact P.here W (V_str.mpr ⟨_, rfl⟩) e
        · have e1 : (Str.length ⟨x.toArray⟩ == 0) = false := by cases x with | nil => exact absurd rfl hx | cons _ _ => rfl
          have e2 : (Str.length ⟨y.toArray⟩ == 0) = false := by cases y with | nil => exact absurd rfl hy | cons _ _ => rfl
          rw [e1, e2]
          refine ⟨by show (x.toArray ++ y.toArray).size ≤ 16777216; simpa using h.1, ?_⟩
          exact P.same W (V_str.mpr ⟨_, by show Value.str ⟨x.toArray ++ y.toArray⟩ _ = _; rw [List.append_toArray]⟩) h.2
    · exact h.elim
  · exact h.elim
end

-- M4b

section
variable {prog : Program} {w : World} {B : Heap} {A : Around} {E : Value → Shared → Prop} {s : Shared} {H : AHeap}

theorem RepO.isList {h : Heap} {a : Addr} {l : List PV} (r : RepO prog w B h a (.list l)) : ∃ vs, h.IsList a vs.toArray ∧ VL B h l vs :=
  let ⟨vs, n, e, x⟩ := r; ⟨vs, ⟨_, e, rfl, n, rfl⟩, x⟩

theorem truth_ok {a : PV} {u : Value} {k : Bool → AHeap → Prop} {Q : Bool → Shared → Prop} (W : WF prog w B H s.heap) (hu : V B s.heap a u) (P : HandB prog w B NoX s H k Q)
    (h : truthW a H k) : wpAny (model prog w) A (truthy u) Q E s := by
  unfold truthW at h
  split at h
  · cases V_none.mp hu
    exact wpAny_of_eq (a := false) rfl (P.same (t := s.toks) W h)
  · cases V_bool.mp hu
    exact wpAny_truthy_bool (P.same (t := s.toks) W h)
  · obtain ⟨t, rfl⟩ := V_int.mp hu
    exact PySem.P.truthy_int (P.same (t := s.toks) W h)
  · rename_i l
    obtain ⟨t, rfl⟩ := V_str.mp hu
    refine PySem.P.truthy_str (by show ¬ (((l.toArray).size : Nat) : Int) ≥ 2 ^ 63; simp only [List.size_toArray]; omega) ?_
    have : (((Str.length ⟨l.toArray⟩ : Nat) : Int) != 0) = (l.length != 0) := by
      show (((l.toArray.size : Nat) : Int) != 0) = _
      rw [List.size_toArray]
      cases l with | nil => rfl | cons x r => rw [bne_iff_ne.mpr (by simp : ((x :: r).length) ≠ 0), bne_iff_ne]; simp only [List.length_cons]; omega
    rw [this]
    exact P.same W h.2
  · rename_i l
    obtain ⟨arr, t, rfl, e⟩ := V_bytes.mp hu
    have z := size_of_map e
    refine PySem.W.truthy_bytes (by rw [z]; omega) ?_
    have : ((arr.size : Int) != 0) = (l.length != 0) := by
      rw [z]
      cases l with | nil => rfl | cons x r => rw [bne_iff_ne.mpr (by simp : ((x :: r).length) ≠ 0), bne_iff_ne]; simp only [List.length_cons]; omega
    rw [this]
    exact P.same W h.2
  · rename_i a
    cases V_ref.mp hu
    split at h
    · rename_i l e
      obtain ⟨vs, hl, hv⟩ := (W.rep _ _ e).isList
      have z := hv.length
      refine wpAny_truthy_list hl (by rw [List.size_toArray, z]; omega) ?_
      have : (!vs.toArray.isEmpty) = (l.length != 0) := by
        rw [← z]; cases vs <;> rfl
      rw [this]; exact P.same W h.2
    · exact h.elim
  · exact h.elim

theorem is_none_ok {a : PV} {u : Value} {h : Heap} (hu : V B h a u) : (u == Value.none) = a.isNone := by
  cases a with
  | none => cases V_none.mp hu; rfl
  | bool b => cases V_bool.mp hu; rfl
  | int i => obtain ⟨t, rfl⟩ := V_int.mp hu; rfl
  | str i => obtain ⟨t, rfl⟩ := V_str.mp hu; rfl
  | bytes i => obtain ⟨_, t, rfl, _⟩ := V_bytes.mp hu; rfl
  | tup l => obtain ⟨_, _, rfl, _⟩ := V_tup.mp hu; rfl
  | ref l => cases V_ref.mp hu; rfl
  | bi l => cases V_bi.mp hu; rfl
  | ty l => cases V_ty.mp hu; rfl
  | flist l => obtain ⟨_, _, rfl, _⟩ := V_flist.mp hu; rfl
  | rng a b => obtain ⟨_, _, _, _, rfl, _⟩ := V_rng.mp hu; rfl

theorem cmpW_ok {op : CmpOp} {a b : PV} {u v : Value} {k : PV → AHeap → Prop} {Q : Value → Shared → Prop} (hA : A.handled = none) (hU : A.units ≤ 9000) (W : WF prog w B H s.heap) (hu : V B s.heap a u) (hv : V B s.heap b v)
    (P : Hand prog w B NoX s H k Q) (h : cmpW prog w B op a b H k) : wpAny (model prog w) A (compareOp op u v) Q E s := by
  have fb : CmpS prog w B op a b H k → wpAny (model prog w) A (compareOp op u v) Q E s := fun h => h A s E Q u v hA hU W hu hv P
  cases b with
  | none =>
    cases op with
    | Is =>
      cases V_none.mp hv
      refine is_none ?_
      rw [is_none_ok hu]
      exact P.here W (V_bool.mpr rfl) h
    | _ => exact fb h
  | int y =>
    cases a with
    | int x =>
      obtain ⟨t, rfl⟩ := V_int.mp hu
      obtain ⟨t', rfl⟩ := V_int.mp hv
      have R : ∀ {c : Bool}, k (.bool c) H → Q (.bool c) s := fun h => P.here W (V_bool.mpr rfl) h
      cases op with
      | Eq => refine PySem.P.eq_int ?_; rw [beq_dec]; exact R h
      | NotEq =>
        refine PySem.P.ne_int ?_
        unfold bne; rw [beq_dec]; exact R h
      | Lt => exact PySem.P.lt_int (R h)
      | LtE => exact PySem.P.le_int (R h)
      | Gt => exact PySem.P.gt_int (R h)
      | GtE => exact PySem.P.ge_int (R h)
      | _ => exact h.elim
    | _ => exact fb h
  | str y =>
    cases a with
    | str x =>
      cases op with
      | Eq =>
        obtain ⟨t, rfl⟩ := V_str.mp hu
        obtain ⟨t', rfl⟩ := V_str.mp hv
        refine PySem.P.eq_str ?_
        rw [beq_dec]
        exact P.here W (V_bool.mpr rfl) h
      | NotEq =>
        obtain ⟨t, rfl⟩ := V_str.mp hu
        obtain ⟨t', rfl⟩ := V_str.mp hv
        refine PySem.P.ne_str ?_
        unfold bne; rw [beq_dec]
        exact P.here W (V_bool.mpr rfl) h
      | _ => exact fb h
    | _ => exact fb h
  | bytes y =>
    cases a with
    | bytes x =>
      cases op with
      | Eq =>
        obtain ⟨x, t, rfl, ex⟩ := V_bytes.mp hu
        obtain ⟨y, t', rfl, ey⟩ := V_bytes.mp hv
        refine PySem.W.eq_bytes ?_
        rw [bytes_dec, ex, ey]
        exact P.here W (V_bool.mpr rfl) h
      | NotEq =>
        obtain ⟨x, t, rfl, ex⟩ := V_bytes.mp hu
        obtain ⟨y, t', rfl, ey⟩ := V_bytes.mp hv
        refine PySem.W.ne_bytes ?_
        unfold bne; rw [bytes_dec, ex, ey]
        exact P.here W (V_bool.mpr rfl) h
      | _ => exact fb h
    | _ => exact fb h
  | _ => exact fb h

theorem VL.strs {h : Heap} : ∀ {ps : List PV} {vs : List Value} {ns : List (List Nat)}, VL B h ps vs → strsOf ps = some ns → StrsAre vs (ns.map fun l => ⟨l.toArray⟩)
  | [], _, _, x, e => by rw [VL_nil] at x; subst x; cases e; exact .nil
  | p :: ps, _, _, x, e => by
    obtain ⟨v, r, rfl, a, b⟩ := VL_cons.mp x
    cases p <;> try cases e
    rename_i i
    unfold strsOf at e
    cases q : strsOf ps with
    | none => rw [q] at e; cases e
    | some ns =>
      rw [q] at e; cases e
      obtain ⟨t, rfl⟩ := V_str.mp a
      exact .cons _ _ (VL.strs b q)

theorem any_eq_mem {α : Type} [DecidableEq α] (x : α) : ∀ l : List α, l.any (· == x) = decide (x ∈ l)
  | [] => by simp
  | y :: l => by
    rw [List.any_cons, any_eq_mem x l, beq_dec]
    by_cases h : y = x
    · subst h; simp
    · have : ¬ x = y := fun e => h e.symm
      simp [h, this]
theorem str_any_mem (x : List Nat) (l : List (List Nat)) : (l.map fun y => (⟨y.toArray⟩ : Str)).any (· == ⟨x.toArray⟩) = decide (x ∈ l) := by
  rw [any_eq_mem]
  have : ((⟨x.toArray⟩ : Str) ∈ l.map fun y => (⟨y.toArray⟩ : Str)) ↔ x ∈ l := by
    simp only [List.mem_map]
    constructor
    · rintro ⟨y, hy, e⟩
      injection e with e
      have : y = x := by simpa using congrArg Array.toList e
      exact this ▸ hy
    · exact fun h => ⟨x, h, rfl⟩
  simp only [this]
end

-- M4d

/-- an iterator at its place -/
inductive IterAt (B : Heap) (h : Heap) (I : Addr) (src : Option (Addr × AObj)) (full : List PV) (i : Nat) : Prop where
  | list (a : Addr) (e : src = some (a, .list full)) (x : h.IsListIter I a i)
  | flist (a : Addr) (vs : List Value) (e : src = none) (b : B.IsList a vs.toArray) (v : VL B h full vs) (x : h.IsListIter I a i)
  | tup (a : Addr) (vs : List Value) (e : src = none) (t : IsTup h a vs.toArray) (v : VL B h full vs) (x : h.IsTupleIter I a i)
  | bytes (b : Array UInt8) (t : Tok) (l : List Nat) (e : src = none) (q : b.toList.map (·.toNat) = l) (f : full = l.map fun (c : Nat) => .int c) (x : KBw.IsBytesIter h I b t i)
  | ascii (l : List Nat) (t : Tok) (e : src = none) (f : full = l.map fun c => .str [c]) (x : h.IsStrIter I "str_ascii_iterator" ⟨l.toArray⟩ t i)
  | wide (l : List Nat) (t : Tok) (e : src = none) (f : full = l.map fun c => .str [c]) (x : h.IsStrIter I "str_iterator" ⟨l.toArray⟩ t i)
  | rng (a : Int) (n : Nat) (e : src = none) (f : full = (List.range n).map fun (j : Nat) => .int (a + j)) (x : IsRangeIter h I (a + i) (n - i) 1) (le : i ≤ n)
  | dict (a : Addr) (kvs : List (List Nat × PV)) (ep : Nat) (e : src = some (a, .sdict kvs ep)) (f : full = kvs.map fun p => .str p.1) (x : h.IsKeyIter I a i kvs.length ep)

section
variable {prog : Program} {w : World} {B : Heap} {A : Around} {E : Value → Shared → Prop} {s : Shared} {H : AHeap} {I : Addr} {src : Option (Addr × AObj)} {full : List PV} {i : Nat}

theorem IterAt.obj {h : Heap} (x : IterAt B h I src full i) : ∃ o, h.get? I = some o ∧ ¬ Imm o ∧ (∃ vs, o.data = .fields vs) := by
  cases x with
  | list _ _ x => obtain ⟨o, ho, hc, hd⟩ := x; exact ⟨o, ho, by simp [Imm, hc], _, hd⟩
  | flist _ _ _ _ _ x => obtain ⟨o, ho, hc, hd⟩ := x; exact ⟨o, ho, by simp [Imm, hc], _, hd⟩
  | tup _ _ _ _ _ x => obtain ⟨o, ho, hc, hd⟩ := x; exact ⟨o, ho, by simp [Imm, hc], _, hd⟩
  | bytes _ _ _ _ _ _ x => obtain ⟨o, ho, hc, hd⟩ := x; exact ⟨o, ho, by simp [Imm, hc], _, hd⟩
  | ascii _ _ _ _ x => obtain ⟨o, ho, hc, hd⟩ := x; exact ⟨o, ho, by simp [Imm, hc], _, hd⟩
  | wide _ _ _ _ x => obtain ⟨o, ho, hc, hd⟩ := x; exact ⟨o, ho, by simp [Imm, hc], _, hd⟩
  | rng _ _ _ _ x _ => exact ⟨_, x, by simp [Imm], _, rfl⟩
  | dict _ _ _ _ _ x => obtain ⟨o, ho, hc, hd⟩ := x; exact ⟨o, ho, by simp [Imm, hc], _, hd⟩

theorem IterAt.mono {h h' : Heap} (x : IterAt B h I src full i) (k : KeepImm h h') (e : ∀ o, h.get? I = some o → h'.get? I = some o) : IterAt B h' I src full i := by
  cases x with
  | list a q x => exact .list a q (x.at e)
  | flist a vs q b v x => exact .flist a vs q b (v.mono k) (x.at e)
  | tup a vs q t v x => obtain ⟨o, ho, r⟩ := x; exact .tup a vs q (k.tup t) (v.mono k) ⟨o, e _ ho, r⟩
  | bytes b t l q r f x => obtain ⟨o, ho, z⟩ := x; exact .bytes b t l q r f ⟨o, e _ ho, z⟩
  | ascii l t q f x => obtain ⟨o, ho, z⟩ := x; exact .ascii l t q f ⟨o, e _ ho, z⟩
  | wide l t q f x => obtain ⟨o, ho, z⟩ := x; exact .wide l t q f ⟨o, e _ ho, z⟩
  | rng a n q f x le => exact .rng a n q f (e _ x) le
  | dict a kvs ep q f x => obtain ⟨o, ho, z⟩ := x; exact .dict a kvs ep q f ⟨o, e _ ho, z⟩

theorem rng_get (n : Nat) (a : Int) (i : Nat) : ((List.range n).map fun (j : Nat) => PV.int (a + j))[i]? = if i < n then some (.int (a + i)) else none := by
  by_cases h : i < n
  · simp [h]
  · simp [h]

theorem iter_item {p : PV} {Q : Option Value → Shared → Prop} (W : WF prog w B H s.heap) (so : srcOk src H) (hI : H I = none) (hB : B.get? I = none) (x : IterAt B s.heap I src full i) (hp : full[i]? = some p)
    (hQ : ∀ v h' tk, V B h' p v → IterAt B h' I src full (i + 1) → Heap.ExtBut I s.heap h' → Q (some v) { s with heap := h', toks := tk }) : wpAny (model prog w) A (pyNext (.ref I)) Q E s := by
  have ki : ∀ {h' : Heap}, Heap.ExtBut I s.heap h' → KeepImm s.heap h' := fun {h'} S a o e im => S a o (fun q => by
    obtain ⟨o', e', ni, _⟩ := x.obj
    subst q; rw [e] at e'; cases e'; exact ni im) e
  cases x with
  | list a q x =>
    subst q
    obtain ⟨vs, hl, hv⟩ := (W.rep _ _ so).isList
    obtain ⟨v, ev, hvv⟩ := hv.get hp
    exact wpAny_pyNext_list_item x hl (by simpa using ev) fun h' hit' hs' => hQ v h' s.toks (hvv.mono (ki hs'.extBut)) (.list a rfl hit') hs'.extBut
  | flist a vs q b v x =>
    obtain ⟨u, eu, huv⟩ := v.get hp
    exact wpAny_pyNext_list_item x (W.blist b) (by simpa using eu) fun h' hit' hs' => hQ u h' s.toks (huv.mono (ki hs'.extBut)) (.flist a vs q b (v.mono (ki hs'.extBut)) hit') hs'.extBut
  | tup a vs q t v x =>
    obtain ⟨u, eu, huv⟩ := v.get hp
    exact wpAny_pyNext_tuple_item x t (by simpa using eu) fun h' hit' hs' => hQ u h' s.toks (huv.mono (ki hs'.extBut)) (.tup a vs q ((ki hs'.extBut).tup t) (v.mono (ki hs'.extBut)) hit') hs'.extBut
  | bytes b t l q r f x =>
    subst f r
    rw [List.map_map, List.getElem?_map] at hp
    cases e : b.toList[i]? with
    | none => rw [e] at hp; cases hp
    | some c =>
      rw [e] at hp; cases hp
      exact KBw.next_item x (by simpa using e) fun h' hit' hs' => hQ _ h' _ (V_int.mpr ⟨_, rfl⟩) (.bytes b t _ q rfl (by rw [List.map_map]) hit') hs'.extBut
  | ascii l t q f x =>
    subst f
    rw [List.getElem?_map] at hp
    cases e : l[i]? with
    | none => rw [e] at hp; cases hp
    | some c =>
      rw [e] at hp; cases hp
      exact wpAny_pyNext_ascii_item x (by simpa using e) fun h' hit' hs' => hQ _ h' _ (V_str.mpr ⟨_, rfl⟩) (.ascii l t q rfl hit') hs'.extBut
  | wide l t q f x =>
    subst f
    rw [List.getElem?_map] at hp
    cases e : l[i]? with
    | none => rw [e] at hp; cases hp
    | some c =>
      rw [e] at hp; cases hp
      exact wpAny_pyNext_wide_item x (by simpa using e) fun h' hit' hs' => hQ _ h' _ (V_str.mpr ⟨_, rfl⟩) (.wide l t q rfl hit') hs'.extBut
  | rng a n q f x le =>
    subst f
    rw [rng_get] at hp
    split at hp <;> cases hp
    refine wpAny_pyNext_range_item x (by omega) fun h' hit' hs' => hQ _ h' _ (V_int.mpr ⟨_, rfl⟩) (.rng a n q rfl ?_ (by omega)) hs'.extBut
    have e1 : a + ((i + 1 : Nat) : Int) = a + i + 1 := by omega
    have e2 : (n : Int) - ((i + 1 : Nat) : Int) = n - i - 1 := by omega
    rw [e1, e2]; exact hit'
  | dict a kvs ep q f x =>
    subst q f
    obtain ⟨kv, hd, hk, hv⟩ := W.rep _ _ so
    rw [List.getElem?_map] at hp
    have hlen : kv.length = kvs.length := by have := congrArg List.length hk; simpa using this
    cases e : kvs[i]? with
    | none => rw [e] at hp; cases hp
    | some c =>
      rw [e] at hp; cases hp
      have hk2 := congrArg (·[i]?) hk
      simp only [List.getElem?_map, e, Option.map_some] at hk2
      cases e2 : kv[i]? with
      | none => rw [e2] at hk2; cases hk2
      | some kc =>
        rw [e2] at hk2
        simp only [Option.map_some, Option.some.injEq] at hk2
        rw [← hlen] at x
        refine wpAny_pyNext_dict_item (knd := strKind prog w) (k := kc.1) (v := kc.2) x hd e2 fun key h' hkey hit' hs' => hQ key h' s.toks ?_ (.dict a kvs ep rfl rfl (hlen ▸ hit')) hs'.extBut
        obtain ⟨t, rfl⟩ := Value.isStrOf_shape hkey
        refine V_str.mpr ⟨t, ?_⟩
        obtain ⟨⟨⟨cl⟩⟩, cv⟩ := kc
        dsimp only at hk2
        rw [← hk2]

theorem iter_end {Q : Option Value → Shared → Prop} (hA : A.handled = none) (W : WF prog w B H s.heap) (so : srcOk src H) (x : IterAt B s.heap I src full i) (hp : full[i]? = none)
    (hQ : ∀ h' tk, Heap.ExtBut I s.heap h' → Q none { s with heap := h', toks := tk }) : wpAny (model prog w) A (pyNext (.ref I)) Q E s := by
  cases x with
  | list a q x =>
    subst q
    obtain ⟨vs, hl, hv⟩ := (W.rep _ _ so).isList
    exact wpAny_pyNext_list_end hA x hl (by have := hv.length; simp at hp ⊢; omega) fun h' hs' => hQ h' s.toks hs'
  | flist a vs q b v x =>
    exact wpAny_pyNext_list_end (items := vs.toArray) hA x (W.blist b) (by have := v.length; simp at hp ⊢; omega) fun h' hs' => hQ h' s.toks hs'
  | tup a vs q t v x =>
    exact wpAny_pyNext_tuple_end hA x t (by have := v.length; simp at hp ⊢; omega) fun h' hs' => hQ h' s.toks hs'
  | bytes b t l q r f x =>
    subst f r
    exact KBw.next_end hA x (by simp at hp ⊢; exact hp) fun h' hs' => hQ h' s.toks hs'
  | ascii l t q f x =>
    subst f
    exact wpAny_pyNext_ascii_end hA x (by simp at hp ⊢; exact hp) fun h' hs' => hQ h' s.toks hs'
  | wide l t q f x =>
    subst f
    exact wpAny_pyNext_wide_end hA x (by simp at hp ⊢; exact hp) fun h' hs' => hQ h' s.toks hs'
  | rng a n q f x le =>
    subst f
    rw [rng_get] at hp
    split at hp
    · cases hp
    · exact wpAny_pyNext_range_end hA x (by omega) fun h' hs' => hQ h' s.toks hs'
  | dict a kvs ep q f x =>
    subst q f
    obtain ⟨kv, hd, hk, hv⟩ := W.rep _ _ so
    have hlen : kv.length = kvs.length := by have := congrArg List.length hk; simpa using this
    rw [← hlen] at x
    exact wpAny_pyNext_dict_end (knd := strKind prog w) hA x hd (by simp at hp ⊢; omega) fun h' hs' => hQ h' s.toks hs'

theorem iter_self {Q : Value → Shared → Prop} (x : IterAt B s.heap I src full i) (hQ : Q (.ref I) s) : wpAny (model prog w) A (pyIter (.ref I)) Q E s := by
  cases x with
  | list a q x => exact wpAny_pyIter_listiter x hQ
  | flist a vs q b v x => exact wpAny_pyIter_listiter x hQ
  | tup a vs q t v x => exact wpAny_pyIter_tupleiter x hQ
  | bytes b t l q r f x => exact KBw.pyIter_self x hQ
  | ascii l t q f x => exact wpAny_pyIter_striter_ascii x hQ
  | wide l t q f x => exact wpAny_pyIter_striter_wide x hQ
  | rng a n q f x le => exact wpAny_pyIter_rangeiter x hQ
  | dict a kvs ep q f x => exact wpAny_pyIter_keyiter x hQ

theorem push_new {h : Heap} (o : Obj) (hf : o.isFreed = false := by rfl) : (h.push o).get? h.objs.size = some o := Heap.get?_push_size _ hf

/-- a walk begins -/
theorem iter_start {p : PV} {v : Value} {k : List PV → Option (Addr × AObj) → Prop} {Q : Value → Shared → Prop} (W : WF prog w B H s.heap) (hv : V B s.heap p v) (h : itemsW p H k) (sysn : ∀ a, H a ≠ none → (a == sysModules) = false)
    (hQ : ∀ I xs src h', k xs src → srcOk src H → s.heap.get? I = none → IterAt B h' I src xs 0 → (∀ b o, s.heap.get? b = some o → h'.get? b = some o) → Q (.ref I) { s with heap := h' }) :
    wpAny (model prog w) A (pyIter v) Q E s := by
  have km : ∀ o, KeepImm s.heap (s.heap.push o) := fun o a ob e _ => Heap.get?_push_of_some _ e
  unfold itemsW at h
  split at h
  · rename_i l
    obtain ⟨arr, t, rfl, e⟩ := V_bytes.mp hv
    refine KBw.pyIter_bytes (hQ _ _ _ _ h.2 trivial (get?_new _) (.bytes arr t l rfl e rfl ⟨_, push_new _, rfl, rfl⟩) fun _ _ e => Heap.get?_push_of_some _ e)
  · rename_i l
    obtain ⟨t, rfl⟩ := V_str.mp hv
    cases ha : (⟨l.toArray⟩ : Str).cps.all (· < 128)
    · exact wpAny_pyIter_wide ha (hQ _ _ _ _ h.2 trivial (get?_new _) (.wide l t rfl rfl ⟨_, push_new _, rfl, rfl⟩) fun _ _ e => Heap.get?_push_of_some _ e)
    · exact wpAny_pyIter_ascii ha (hQ _ _ _ _ h.2 trivial (get?_new _) (.ascii l t rfl rfl ⟨_, push_new _, rfl, rfl⟩) fun _ _ e => Heap.get?_push_of_some _ e)
  · rename_i l
    obtain ⟨a, vs, rfl, ht, hl⟩ := V_tup.mp hv
    exact wpAny_pyIter_tuple ht (hQ _ _ _ _ h trivial (get?_new _) (.tup a vs rfl ((km _).tup ht) (hl.mono (km _)) ⟨_, push_new _, rfl, rfl⟩) fun _ _ e => Heap.get?_push_of_some _ e)
  · rename_i a
    cases V_ref.mp hv
    split at h
    · rename_i l e
      obtain ⟨vs, hl, hv⟩ := (W.rep _ _ e).isList
      exact wpAny_pyIter_list hl (hQ _ _ _ _ h e (get?_new _) (.list a rfl ⟨_, push_new _, rfl, rfl⟩) fun _ _ e => Heap.get?_push_of_some _ e)
    · rename_i kvs ep e
      obtain ⟨kv, hd, hk, hv⟩ := W.rep _ _ e
      have hlen : kv.length = kvs.length := by have := congrArg List.length hk; simpa using this
      exact wpAny_pyIter_dict (knd := strKind prog w) (sysn a (by rw [e]; simp)) hd (hQ _ _ _ _ h.2 e (get?_new _) (.dict a kvs ep rfl rfl ⟨_, push_new _, rfl, by rw [hlen]; rfl⟩) fun _ _ e => Heap.get?_push_of_some _ e)
    · exact h.elim
  · rename_i l
    obtain ⟨a, vs, rfl, b, hl⟩ := V_flist.mp hv
    exact wpAny_pyIter_list (W.blist b) (hQ _ _ _ _ h trivial (get?_new _) (.flist a vs rfl b (hl.mono (km _)) ⟨_, push_new _, rfl, rfl⟩) fun _ _ e => Heap.get?_push_of_some _ e)
  · rename_i a b
    obtain ⟨r, t, u, x, rfl, hr⟩ := V_rng.mp hv
    obtain ⟨⟨h1, h2, h4, h5⟩, h3⟩ := h
    have hs : Builtin.Range.rangeSize a b 1 = ((b - a).toNat : Int) := by
      unfold Builtin.Range.rangeSize
      simp only [show (1 : Int) > 0 from by decide, if_true, Int.ediv_one]
      split <;> omega
    refine wpAny_pyIter_range hr ?_ (hQ _ _ _ _ h3 trivial (get?_new _) (.rng a _ rfl rfl ?_ (Nat.zero_le _)) fun _ _ e => Heap.get?_push_of_some _ e)
    · unfold Builtin.Range.small
      rw [hs]
      simp only [Builtin.Range.rangeFitsLong, Bool.and_eq_true, decide_eq_true_eq, Bool.or_eq_true]
      refine ⟨⟨⟨⟨?_, ?_⟩, ?_⟩, ?_⟩, .inr ?_⟩ <;> (try (rw [if_pos (by decide)])) <;> first | omega | (simp; omega) | decide
    · refine (push_new _).trans ?_
      rw [hs]
      simp [rawInt]
  · exact h.elim
end

-- L1

/-! keyed tables -/
section
variable {K α : Type} [DecidableEq K] [DecidableEq α] {B h : Heap}
theorem kv_get (g : K → α) (gi : ∀ a b, g a = g b → a = b) (k : K) : ∀ {kvs : List (α × PV)} {kv : List (K × Value)}, kv.map (fun p => g p.1) = kvs.map (·.1) → VL B h (kvs.map (·.2)) (kv.map (·.2)) →
    (∃ p v, (kvs.find? fun p => decide (p.1 = g k)).map (·.2) = some p ∧ valueAt kv k = some v ∧ V B h p v) ∨ ((kvs.find? fun p => decide (p.1 = g k)).map (·.2) = none ∧ valueAt kv k = none)
  | [], [], _, _ => .inr ⟨rfl, rfl⟩
  | [], _ :: _, e, _ => by cases e
  | _ :: _, [], e, _ => by cases e
  | (a, p) :: r, (b, v) :: r', e, hv => by
    simp only [List.map_cons, List.cons.injEq] at e
    obtain ⟨e1, e2⟩ := e
    obtain ⟨v', r2, q, h1, h2⟩ := VL_cons.mp hv
    simp only [List.map_cons, List.cons.injEq] at q
    obtain ⟨rfl, q⟩ := q
    rw [← q] at h2
    by_cases c : b = k
    · subst c
      left
      refine ⟨p, v, ?_, ?_, h1⟩
      · simp [List.find?_cons, ← e1]
      · simp [valueAt]
    · have c' : ¬ a = g k := fun z => c (gi _ _ (e1.trans z))
      have e3 : ((a, p) :: r).find? (fun p => decide (p.1 = g k)) = r.find? fun p => decide (p.1 = g k) := by simp [List.find?_cons, c']
      have e4 : valueAt ((b, v) :: r') k = valueAt r' k := by simp [valueAt, List.find?_cons, c]
      rw [e3, e4]
      exact kv_get g gi k e2 h2
end
theorem str_inj (a b : Str) (e : a.cps.toList = b.cps.toList) : a = b := by
  cases a; cases b; simp only [Str.mk.injEq]; exact Array.toList_inj.mp e

section
variable {prog : Program} {w : World} {B : Heap} {A : Around} {E : Value → Shared → Prop} {s : Shared} {H : AHeap} {K : Frag} {mg mb : Str → Option Value}

theorem GH.sysn (G : GH K B mg mb) (W : WF prog w B H s.heap) : ∀ a, H a ≠ none → (a == sysModules) = false := fun a h => by
  rw [beq_eq_false_iff_ne]
  rintro rfl
  obtain ⟨o, e⟩ := G.sys
  cases q : H sysModules with
  | none => exact h q
  | some x => rw [W.low _ _ q] at e; cases e
theorem sd_get {h : Heap} {a : Addr} {kvs : List (List Nat × PV)} {ep : Nat} (r : RepO prog w B h a (.sdict kvs ep)) (x : List Nat) : ∃ kv, h.DictAt (strKind prog w) a kv ep ∧
    ((∃ p v, sget kvs x = some p ∧ valueAt kv ⟨x.toArray⟩ = some v ∧ V B h p v) ∨ (sget kvs x = none ∧ valueAt kv ⟨x.toArray⟩ = none)) := by
  obtain ⟨kv, d, hk, hv⟩ := r
  refine ⟨kv, d, ?_⟩
  have := kv_get (fun s : Str => s.cps.toList) str_inj ⟨x.toArray⟩ hk hv
  exact this
theorem id_get {h : Heap} {a : Addr} {kvs : List (Int × PV)} (r : RepO prog w B h a (.idict kvs)) (x : Int) : ∃ kv, h.DictOf (intKind prog w) a kv ∧
    ((∃ p v, iget kvs x = some p ∧ valueAt kv x = some v ∧ V B h p v) ∨ (iget kvs x = none ∧ valueAt kv x = none)) := by
  obtain ⟨kv, d, hk, hv⟩ := r
  exact ⟨kv, d, kv_get (fun i : Int => i) (fun _ _ e => e) x hk hv⟩
theorem sd_isSome {kvs : List (List Nat × PV)} {kv : List (Str × Value)} {h : Heap} {x : List Nat} (r : (∃ p v, sget kvs x = some p ∧ valueAt kv ⟨x.toArray⟩ = some v ∧ V B h p v) ∨ (sget kvs x = none ∧ valueAt kv ⟨x.toArray⟩ = none)) : (valueAt kv ⟨x.toArray⟩).isSome = (sget kvs x).isSome := by
  rcases r with ⟨p, v, a, b, _⟩ | ⟨a, b⟩ <;> rw [a, b] <;> rfl
theorem id_isSome {kvs : List (Int × PV)} {kv : List (Int × Value)} {h : Heap} {x : Int} (r : (∃ p v, iget kvs x = some p ∧ valueAt kv x = some v ∧ V B h p v) ∨ (iget kvs x = none ∧ valueAt kv x = none)) : (valueAt kv x).isSome = (iget kvs x).isSome := by
  rcases r with ⟨p, v, a, b, _⟩ | ⟨a, b⟩ <;> rw [a, b] <;> rfl
/-- an empty dict of another kind -/
theorem empty_dict {h : Heap} {a : Addr} {ep : Nat} (r : RepO prog w B h a (.sdict [] ep)) : h.DictOf (intKind prog w) a [] := by
  obtain ⟨kv, ⟨o, es, ho, x, hd, _, hp, _⟩, hk, _⟩ := r
  have kv0 : kv = [] := by simpa using hk
  subst kv0
  have es0 : es.toList = [] := by
    cases q : es.toList with
    | nil => rfl
    | cons e r => rw [q] at hp; cases hp
  refine ⟨o, es, ep, ho, x, hd, ?_, ?_, by simp⟩
  · have : es = #[] := Array.toList_inj.mp es0
    subst this
    intro i hi; simp at hi
  · rw [es0]; exact .nil

theorem contains_dec {b : Array UInt8} {l : List Nat} (e : b.toList.map (·.toNat) = l) {x : Int} (h0 : 0 ≤ x) (h1 : x < 256) : b.contains x.toNat.toUInt8 = decide (x.toNat ∈ l) := by
  subst e
  have hx : (x.toNat.toUInt8).toNat = x.toNat := by
    rw [Nat.toUInt8, UInt8.toNat_ofNat']; omega
  by_cases c : x.toNat.toUInt8 ∈ b
  · rw [Array.contains_iff_mem.mpr c]
    refine (decide_eq_true ?_).symm
    rw [List.mem_map]
    exact ⟨_, Array.mem_toList_iff.mpr c, hx⟩
  · have : b.contains x.toNat.toUInt8 = false := by rw [Bool.eq_false_iff]; exact fun z => c (Array.contains_iff_mem.mp z)
    rw [this]
    refine (decide_eq_false fun z => c ?_).symm
    obtain ⟨y, hy, e⟩ := List.mem_map.mp z
    have : y = x.toNat.toUInt8 := UInt8.toNat_inj.mp (by rw [e, hx])
    rw [← this]; exact Array.mem_toList_iff.mp hy
theorem gives_contains (b : Array UInt8) (t u : Tok) {i : Int} (h0 : 0 ≤ i) (h1 : i < 256) : Gives (Builtin.«bytes.__contains__» ⟨[.bytes b t, .int i u], []⟩) (.val (.bool (b.contains i.toNat.toUInt8))) := by
  refine .of_wp fun M A E s Q hq => ?_
  show wpAny M A (Builtin.Bytes.containsIn "bytes.__contains__" (.bytes b t) (.int i u) >>= fun r => _) _ E s
  refine wpAny_bind ?_
  unfold Builtin.Bytes.containsIn
  refine wpAny_bind (wpAny_attempt (wpAny_of_eq (rfl : asIndex (.int i u) = pure i) ?_))
  refine wpAny_bind (wpAny_of_eq KBy.buffer_eq ?_)
  dsimp only
  rw [if_neg (by simp; omega)]
  refine wpAny_pure ?_
  exact wpAny_pure ⟨_, rfl, hq⟩
theorem inI_ok {x : Int} {b : PV} {u v : Value} {k : PV → AHeap → Prop} {Q : Value → Shared → Prop} (G : GH K B mg mb) (W : WF prog w B H s.heap) (hu : V B s.heap (.int x) u) (hv : V B s.heap b v)
    (P : Hand prog w B NoX s H k Q) (h : inI x b H k) : wpAny (model prog w) A (compareOp .In u v) Q E s := by
  obtain ⟨t, rfl⟩ := V_int.mp hu
  cases b with
  | tup l =>
    obtain ⟨a, vs, rfl, ht, hl⟩ := V_tup.mp hv
    have h : (match intsOf l with | some ns => k (.bool (decide (x ∈ ns))) H | Option.none => False) := h
    cases e : intsOf l with
    | none => rw [e] at h; exact h.elim
    | some ns =>
      rw [e] at h
      refine in_tuple_ints ht (ns := ns) (hl.ints e) ?_
      rw [any_eq_mem]
      exact P.here W (V_bool.mpr rfl) h
  | bytes l =>
    obtain ⟨arr, t', rfl, e⟩ := V_bytes.mp hv
    obtain ⟨⟨_, h0, h1⟩, h⟩ := h
    refine in_gives (typeIs_bytes s arr t') FB.slot_bytes_contains FB.entry_bytes_contains (FB.args_bytes_contains_2 _ _) (gives_contains arr t' t h0 h1) ?_
    rw [contains_dec e h0 h1]
    exact P.here W (V_bool.mpr rfl) h
  | ref a =>
    cases V_ref.mp hv
    have h : (match H a with | some (.idict kvs) => k (.bool ((iget kvs x).isSome)) H | some (.sdict [] _) => k (.bool false) H | _ => False) := h
    cases e : H a with
    | none => rw [e] at h; exact h.elim
    | some o =>
      rw [e] at h
      have sysn := G.sysn W a (by rw [e]; exact Option.some_ne_none _)
      cases o with
      | idict kvs =>
        obtain ⟨kv, d, r⟩ := id_get (W.rep _ _ e) x
        refine wpAny_in_of (knd := intKind prog w) (isInt_self _ t) sysn d.mapOf ?_
        rw [id_isSome r]
        exact P.same W (V_bool.mpr rfl) h
      | sdict kvs ep =>
        cases kvs with
        | nil =>
          refine wpAny_in_of (knd := intKind prog w) (isInt_self _ t) sysn (empty_dict (W.rep _ _ e)).mapOf ?_
          exact P.same W (V_bool.mpr rfl) h
        | cons => exact h.elim
      | _ => exact h.elim
  | _ => exact h.elim
theorem inS_ok {x : List Nat} {b : PV} {u v : Value} {k : PV → AHeap → Prop} {Q : Value → Shared → Prop} (G : GH K B mg mb) (W : WF prog w B H s.heap) (hu : V B s.heap (.str x) u) (hv : V B s.heap b v)
    (P : Hand prog w B NoX s H k Q) (h : inS x b H k) : wpAny (model prog w) A (compareOp .In u v) Q E s := by
  obtain ⟨t, rfl⟩ := V_str.mp hu
  cases b with
  | tup l =>
    obtain ⟨a, vs, rfl, ht, hl⟩ := V_tup.mp hv
    have h : (match strsOf l with | some ns => k (.bool (decide (x ∈ ns))) H | Option.none => False) := h
    cases e : strsOf l with
    | none => rw [e] at h; exact h.elim
    | some ns =>
      rw [e] at h
      refine in_tuple_strs ht (hl.strs e) ?_
      rw [str_any_mem]
      exact P.here W (V_bool.mpr rfl) h
  | ref a =>
    cases V_ref.mp hv
    have h : (match H a with | some (.sdict kvs _) => k (.bool ((sget kvs x).isSome)) H | _ => False) := h
    cases e : H a with
    | none => rw [e] at h; exact h.elim
    | some o =>
      rw [e] at h
      cases o with
      | sdict kvs ep =>
        obtain ⟨kv, d, r⟩ := sd_get (W.rep _ _ e) x
        refine wpAny_in_of (knd := strKind prog w) (isStrOf_self _ t) (G.sysn W a (by rw [e]; exact Option.some_ne_none _)) d.dictOf.mapOf ?_
        rw [sd_isSome r]
        exact P.same W (V_bool.mpr rfl) h
      | _ => exact h.elim
  | _ => exact h.elim
theorem ninI_ok {x : Int} {b : PV} {u v : Value} {k : PV → AHeap → Prop} {Q : Value → Shared → Prop} (G : GH K B mg mb) (W : WF prog w B H s.heap) (hu : V B s.heap (.int x) u) (hv : V B s.heap b v)
    (P : Hand prog w B NoX s H k Q) (h : ninI x b H k) : wpAny (model prog w) A (compareOp .NotIn u v) Q E s := by
  obtain ⟨t, rfl⟩ := V_int.mp hu
  cases b with
  | tup l =>
    obtain ⟨a, vs, rfl, ht, hl⟩ := V_tup.mp hv
    have h : (match intsOf l with | some ns => k (.bool (!decide (x ∈ ns))) H | Option.none => False) := h
    cases e : intsOf l with
    | none => rw [e] at h; exact h.elim
    | some ns =>
      rw [e] at h
      refine notin_tuple_ints ht (ns := ns) (hl.ints e) ?_
      rw [any_eq_mem]
      exact P.here W (V_bool.mpr rfl) h
  | bytes l =>
    obtain ⟨arr, t', rfl, e⟩ := V_bytes.mp hv
    obtain ⟨⟨_, h0, h1⟩, h⟩ := h
    refine notIn_gives (typeIs_bytes s arr t') FB.slot_bytes_contains FB.entry_bytes_contains (FB.args_bytes_contains_2 _ _) (gives_contains arr t' t h0 h1) ?_
    rw [contains_dec e h0 h1]
    exact P.here W (V_bool.mpr rfl) h
  | ref a =>
    cases V_ref.mp hv
    have h : (match H a with | some (.idict kvs) => k (.bool (!(iget kvs x).isSome)) H | some (.sdict [] _) => k (.bool true) H | _ => False) := h
    cases e : H a with
    | none => rw [e] at h; exact h.elim
    | some o =>
      rw [e] at h
      have sysn := G.sysn W a (by rw [e]; exact Option.some_ne_none _)
      cases o with
      | idict kvs =>
        obtain ⟨kv, d, r⟩ := id_get (W.rep _ _ e) x
        refine wpAny_notIn_of (knd := intKind prog w) (isInt_self _ t) sysn d.mapOf ?_
        rw [id_isSome r]
        exact P.same W (V_bool.mpr rfl) h
      | sdict kvs ep =>
        cases kvs with
        | nil =>
          refine wpAny_notIn_of (knd := intKind prog w) (isInt_self _ t) sysn (empty_dict (W.rep _ _ e)).mapOf ?_
          exact P.same W (V_bool.mpr rfl) h
        | cons => exact h.elim
      | _ => exact h.elim
  | _ => exact h.elim
theorem ninS_ok {x : List Nat} {b : PV} {u v : Value} {k : PV → AHeap → Prop} {Q : Value → Shared → Prop} (G : GH K B mg mb) (W : WF prog w B H s.heap) (hu : V B s.heap (.str x) u) (hv : V B s.heap b v)
    (P : Hand prog w B NoX s H k Q) (h : ninS x b H k) : wpAny (model prog w) A (compareOp .NotIn u v) Q E s := by
  obtain ⟨t, rfl⟩ := V_str.mp hu
  cases b with
  | tup l =>
    obtain ⟨a, vs, rfl, ht, hl⟩ := V_tup.mp hv
    have h : (match strsOf l with | some ns => k (.bool (!decide (x ∈ ns))) H | Option.none => False) := h
    cases e : strsOf l with
    | none => rw [e] at h; exact h.elim
    | some ns =>
      rw [e] at h
      refine notin_tuple_strs ht (hl.strs e) ?_
      rw [str_any_mem]
      exact P.here W (V_bool.mpr rfl) h
  | ref a =>
    cases V_ref.mp hv
    have h : (match H a with | some (.sdict kvs _) => k (.bool (!(sget kvs x).isSome)) H | _ => False) := h
    cases e : H a with
    | none => rw [e] at h; exact h.elim
    | some o =>
      rw [e] at h
      cases o with
      | sdict kvs ep =>
        obtain ⟨kv, d, r⟩ := sd_get (W.rep _ _ e) x
        refine wpAny_notIn_of (knd := strKind prog w) (isStrOf_self _ t) (G.sysn W a (by rw [e]; exact Option.some_ne_none _)) d.dictOf.mapOf ?_
        rw [sd_isSome r]
        exact P.same W (V_bool.mpr rfl) h
      | _ => exact h.elim
  | _ => exact h.elim
theorem cmpH_ok {op : CmpOp} {a b : PV} {u v : Value} {k : PV → AHeap → Prop} {Q : Value → Shared → Prop} (G : GH K B mg mb) (hA : A.handled = none) (hU : A.units ≤ 9000) (W : WF prog w B H s.heap) (hu : V B s.heap a u) (hv : V B s.heap b v)
    (P : Hand prog w B NoX s H k Q) (h : cmpH prog w B op a b H k) : wpAny (model prog w) A (compareOp op u v) Q E s := by
  cases op with
  | In =>
    cases a with
    | int x => exact inI_ok G W hu hv P h
    | str x => exact inS_ok G W hu hv P h
    | _ => exact h.elim
  | NotIn =>
    cases a with
    | int x => exact ninI_ok G W hu hv P h
    | str x => exact ninS_ok G W hu hv P h
    | _ => exact h.elim
  | _ => exact cmpW_ok hA hU W hu hv P h
end

-- L2

section
variable {prog : Program} {w : World} {B : Heap} {A : Around} {E : Value → Shared → Prop} {s : Shared} {H : AHeap} {K : Frag} {mg mb : Str → Option Value}

theorem tail_any {value slice : Expr} {o i : Value} {T id : String} {ops : List Value} {Q : Value → Shared → Prop} (hT : s.TypeIs o T)
    (hl : typeLookup (.type T) "__getitem__" = pure (some (.builtin id))) (hs : subscripted slice false o i = operate ops (getItem o i)) (h : wpAny (model prog w) A (getItem o i) Q E s) :
    wpAny (model prog w) A (subscriptTail value slice o i) Q E s := by
  unfold subscriptTail
  refine wpAny_bind ?_
  rw [getitemInPython_of_ne hT.not_modules]
  refine wpAny_bind (wpAny_specialOf hT hl ?_)
  have fin : wpAny (model prog w) A (subscripted slice false o i) (fun r s₃ => wpAny (model prog w) A (letTemporaryGo value o r >>= fun _ => pure r) Q E s₃) E s := by
    rw [hs]
    exact wpAny_operating (wpAny_mono h (fun r s₃ h₃ => wpAny_bind (wpAny_letTemporaryGo (wpAny_pure h₃))) fun _ _ x => x)
  first
    | exact wpAny_pure (wpAny_bind fin)
    | exact wpAny_bind (wpAny_pure (wpAny_bind fin))
    | exact wpAny_bind fin
theorem sub_notSlice {slice : Expr} {o i : Value} (h : notSlice slice = true) : subscripted slice false o i = operate [o, i] (getItem o i) := by
  cases slice with
  | Slice => cases h
  | _ => rfl

theorem getD_list {α : Type} {l : List α} {d x : α} {i : Nat} (e : l[i]? = some x) : l.getD i d = x := by rw [List.getD_eq_getElem?_getD, e]; rfl

theorem item_ok {value slice : Expr} {o i : PV} {ou iv : Value} {k : PV → AHeap → Prop} {Q : Value → Shared → Prop} (W : WF prog w B H s.heap) (hu : V B s.heap o ou) (hv : V B s.heap i iv)
    (P : Hand prog w B NoX s H k Q) (hs : notSlice slice = true) (h : itemW o i H k) : wpAny (model prog w) A (subscriptTail value slice ou iv) Q E s := by
  have hs' := fun o i => @sub_notSlice slice o i hs
  cases h with
  | @bytes x n c h =>
    obtain ⟨arr, t, rfl, e⟩ := V_bytes.mp hu
    obtain ⟨t', rfl⟩ := V_int.mp hv
    obtain ⟨h1, h2, h3⟩ := c
    have es := size_of_map e
    refine tail_any (typeIs_bytes s arr t) FB.slot_bytes_getitem.lookup (hs' _ _) ?_
    obtain ⟨l⟩ := arr
    have es : l.length = x.length := es
    have lt : n.toNat < l.length := by omega
    refine getItem_bytes (l := l) (t := t) (u := t') (by omega) h2 (by omega) ?_
    refine P.same W (V_int.mpr ⟨s.toks, ?_⟩) h
    subst e
    rw [getD_list (List.getElem?_eq_getElem lt), getD_list (x := l[n.toNat].toNat) (by rw [List.getElem?_map, List.getElem?_eq_getElem lt]; rfl)]
  | @str x n j c q lt h =>
    obtain ⟨t, rfl⟩ := V_str.mp hu
    obtain ⟨t', rfl⟩ := V_int.mp hv
    refine tail_any (typeIs_str s _ t) slot_str_getitem.lookup (hs' _ _) ?_
    refine PyProof.Rows.getItem_str (c := x.getD j 0) c ?_ (P.same W (V_str.mpr ⟨_, rfl⟩) h)
    rw [getD_list (List.getElem?_eq_getElem lt)]
    show (seqIndex? n x.length).bind _ = _
    rw [q]
    simp [List.getElem?_eq_getElem lt]
  | @list a x n e c h =>
    cases V_ref.mp hu
    obtain ⟨t', rfl⟩ := V_int.mp hv
    obtain ⟨vs, hl, hvl⟩ := (W.rep _ _ e).isList
    obtain ⟨h1, h2, h3⟩ := c
    have hn := hvl.length
    refine tail_any hl.typeIs slot_list_getitem.lookup (hs' _ _) ?_
    have lt : n.toNat < x.length := by omega
    obtain ⟨v, ev, hvv⟩ := hvl.get (List.getElem?_eq_getElem lt)
    rw [getD_list (List.getElem?_eq_getElem lt)] at h
    exact wpAny_getItem_list hl (by omega) (by omega) (x := v) (by simpa using ev) (P.here W hvv h)
  | @last a x e c h =>
    cases V_ref.mp hu
    obtain ⟨t', rfl⟩ := V_int.mp hv
    obtain ⟨vs, hl, hvl⟩ := (W.rep _ _ e).isList
    obtain ⟨h1, h2⟩ := c
    have sz : vs.toArray.size = x.length := hvl.length
    refine tail_any hl.typeIs slot_list_getitem.lookup (hs' _ _) ?_
    have lt : x.length - 1 < x.length := Nat.sub_lt h2 Nat.one_pos
    obtain ⟨v, ev, hvv⟩ := hvl.get (List.getElem?_eq_getElem lt)
    rw [getD_list (List.getElem?_eq_getElem lt)] at h
    refine wpAny_getItem_list_neg hl (by decide) (by rw [sz]; omega) (by omega) (x := v) ?_ (P.here W hvv h)
    rw [sz, show ((-1 : Int) + (x.length : Int)).toNat = x.length - 1 by omega]; simpa using ev
  | @idict a kvs n v e g h =>
    cases V_ref.mp hu
    obtain ⟨t', rfl⟩ := V_int.mp hv
    obtain ⟨kv, d, r⟩ := id_get (W.rep _ _ e) n
    refine tail_any d.typeIs slot_dict_getitem.lookup (hs' _ _) ?_
    rcases r with ⟨p, v, e1, e2, e3⟩ | ⟨e1, _⟩
    · rw [e1] at g; cases g
      exact wpAny_getItem_of (knd := intKind prog w) (isInt_self _ t') d.mapOf e2 (P.same W e3 h)
    · rw [e1] at g; cases g
  | @sdict a kvs ep x v e g h =>
    cases V_ref.mp hu
    obtain ⟨t', rfl⟩ := V_str.mp hv
    obtain ⟨kv, d, r⟩ := sd_get (W.rep _ _ e) x
    refine tail_any d.dictOf.typeIs slot_dict_getitem.lookup (hs' _ _) ?_
    rcases r with ⟨p, v, e1, e2, e3⟩ | ⟨e1, _⟩
    · rw [e1] at g; cases g
      exact wpAny_getItem_of (knd := strKind prog w) (isStrOf_self _ t') d.dictOf.mapOf e2 (P.same W e3 h)
    · rw [e1] at g; cases g

theorem clipI_eq (n : Nat) (v : Int) : clipI n v = clipAt n v := by
  unfold clipI clipAt
  split
  · rename_i h
    rw [Int.min_eq_left (by omega), Int.add_comm]; omega
  · rename_i h
    obtain ⟨m, rfl⟩ := Int.eq_ofNat_of_zero_le (Int.not_lt.mp h)
    rw [Int.toNat_natCast]; omega
theorem part_of {h : Heap} {p : PV} {v : Value} {n d i : Nat} (hv : V B h p v) (e : partI n d p = some i) : ∃ o : Option (Int × Tok), v = partValue o ∧ i = (o.map (·.1)).elim d (clipAt n) := by
  cases p <;> try cases e
  · exact ⟨none, V_none.mp hv, rfl⟩
  · rename_i z
    obtain ⟨t, rfl⟩ := V_int.mp hv
    exact ⟨some (z, t), rfl, clipI_eq n z⟩
theorem isPart_of (o : Option (Int × Tok)) : IsPart (partValue o) (o.map (·.1)) := by cases o with
  | none => exact .none
  | some p => exact .int _ _
theorem str_idx (lo hi : Option Int) (n : Nat) : Builtin.Str.strSliceIndices lo hi 1 n = sliceRange ((lo.elim 0 (clipAt n) : Nat) : Int) ((hi.elim n (clipAt n) : Nat) : Int) 1 := by
  cases lo <;> cases hi <;> simp [Builtin.Str.strSliceIndices, clipAt_cast]
theorem txt_slice (x : List Nat) (lo hi : Option Int) : Txt.slice ⟨x.toArray⟩ lo hi = ⟨(cut x (lo.elim 0 (clipAt x.length)) (hi.elim x.length (clipAt x.length))).toArray⟩ := by
  have hl : (⟨x.toArray⟩ : Str).length = x.length := by simp [Str.length]
  have hp : (Builtin.Str.strSliceIndices lo hi 1 x.length).filterMap ((⟨x.toArray⟩ : Str).cps[·]?) = cut x (lo.elim 0 (clipAt x.length)) (hi.elim x.length (clipAt x.length)) := by
    rw [str_idx, sliceRange_one, pick_run]; rfl
  unfold Txt.slice
  rw [hl]
  split
  · rename_i h
    simp only [Bool.and_eq_true, beq_iff_eq] at h
    have le1 : (hi.elim x.length (clipAt x.length)) ≤ x.length := by
      cases hi with
      | none => exact Nat.le_refl _
      | some i => show clipAt x.length i ≤ x.length; unfold clipAt; omega
    have h2 := h.2
    rw [str_idx, sliceRange_one, List.length_map, List.length_range] at h2
    congr 2
    unfold cut
    by_cases z : x.length = 0
    · have : x = [] := List.length_eq_zero_iff.mp z
      subst this; simp
    · have e1 : lo.elim 0 (clipAt x.length) = 0 := by omega
      have e2 : hi.elim x.length (clipAt x.length) = x.length := by omega
      rw [e1, e2]; simp
  · rw [hp]
theorem VL.cut {h : Heap} {ps : List PV} {vs : List Value} (i j : Nat) (x : VL B h ps vs) : VL B h (Mine.cut ps i j) (Mine.cut vs i j) := (x.drop i).take _

theorem rev_pick (vs : List Value) : slicePick vs.toArray none none (some (-1)) = vs.reverse.toArray := by
  rw [krv_pick]

theorem slice_ok {value : Expr} {lo hi st : Option Expr} {pos : Pos} {o a b c : PV} {ou l u x : Value} {sl : Addr} {k : PV → AHeap → Prop} {Q : Value → Shared → Prop} (W : WF prog w B H s.heap) (hu : V B s.heap o ou)
    (hsl : s.heap.get? sl = some { cls := .type "slice", data := .fields #[l, u, x] }) (ha : V B s.heap a l) (hb : V B s.heap b u) (hc : V B s.heap c x)
    (P : Hand prog w B NoX s H k Q) (h : sliceW o a b c H k) : wpAny (model prog w) A (subscriptTail value (.Slice lo hi st pos) ou (.ref sl)) Q E s := by
  have ops : ∀ o i, ∃ ops, subscripted (.Slice lo hi st pos) false o i = operate ops (getItem o i) := fun o i => by
    cases st
    · exact ⟨_, rfl⟩
    · exact ⟨_, rfl⟩
  have fresh := get?_new s.heap
  cases h with
  | @bytes xs lo hi i j e1 e2 z h =>
    obtain ⟨arr, t, rfl, e⟩ := V_bytes.mp hu
    cases V_none.mp hc
    obtain ⟨o1, rfl, rfl⟩ := part_of ha e1
    obtain ⟨o2, rfl, rfl⟩ := part_of hb e2
    obtain ⟨_, hs⟩ := ops (.bytes arr t) (.ref sl)
    refine tail_any (typeIs_bytes s arr t) FB.slot_bytes_getitem.lookup hs ?_
    have es := size_of_map e
    refine getItem_meets (typeIs_bytes _ _ _) (by decide) FB.slot_bytes_getitem FB.entry_bytes_getitem (FB.args_bytes_getitem_2 _ _) (KBc.meets_slice2 arr t sl (isPart_of o1) (isPart_of o2))
      ⟨⟨_, hsl, rfl, rfl⟩, Nat.le_trans (KBc.size_picked_le arr _ _) (by rw [sizeLine_eq]; omega), fun t' k => P.same W (V_bytes.mpr ⟨_, _, rfl, ?_⟩) h⟩
    rw [KBc.picked_eq, ← e]
    simp only [cut, List.map_take, List.map_drop, List.length_map, Array.length_toList]
  | @str xs lo hi i j e1 e2 z h =>
    obtain ⟨t, rfl⟩ := V_str.mp hu
    cases V_none.mp hc
    obtain ⟨o1, rfl, rfl⟩ := part_of ha e1
    obtain ⟨o2, rfl, rfl⟩ := part_of hb e2
    obtain ⟨_, hs⟩ := ops (.str ⟨xs.toArray⟩ t) (.ref sl)
    refine tail_any (typeIs_str s _ t) slot_str_getitem.lookup hs ?_
    have hl : (⟨xs.toArray⟩ : Str).length = xs.length := rfl
    refine wpAny_getItem_str_slice (l := o1) (u := o2) (st := none) ⟨_, hsl, rfl, rfl⟩ rfl
      (post_val_or_str ⟨Nat.le_trans (Txt.slice_le _ _ _) (by rw [sizeLine_eq, hl]; omega), fun t' k => ?_⟩)
    show Q (.str (Txt.slice _ _ _) _) _
    rw [txt_slice]
    exact P.same W (V_str.mpr ⟨_, rfl⟩) h
  | @flist xs lo hi i j e1 e2 z h =>
    obtain ⟨al, vs, rfl, bl, hl⟩ := V_flist.mp hu
    cases V_none.mp hc
    obtain ⟨o1, rfl, rfl⟩ := part_of ha e1
    obtain ⟨o2, rfl, rfl⟩ := part_of hb e2
    obtain ⟨_, hs⟩ := ops (.ref al) (.ref sl)
    have bl' := W.blist bl
    have sz : vs.toArray.size = xs.length := hl.length
    refine tail_any bl'.typeIs slot_list_getitem.lookup hs ?_
    refine wpAny_getItem_list_slice bl' ⟨_, hsl, rfl, rfl⟩ (isPart_of o1) (isPart_of o2) .none (by simp) ?_ (by rw [sizeLine_eq, sz]; omega)
    rw [slicePick_plain]
    have nH := W.fresh fresh
    refine P (.ref s.heap.objs.size) _ _ _ ⟨rfl, rfl, rfl⟩ ((Step.push _ _ _ _).alloc fresh) ?_ (V_ref.mpr rfl) (h _ nH)
    refine (W.push _).alloc nH (W.freshB fresh) ⟨_, _, push_new _, ?_⟩
    rw [sz]
    exact (hl.mono fun a ob e _ => Heap.get?_push_of_some _ e).cut _ _
  | @rev al xs e z h =>
    cases V_ref.mp hu
    obtain ⟨t', rfl⟩ := V_int.mp hc
    cases V_none.mp ha
    cases V_none.mp hb
    obtain ⟨vs, bl, hl⟩ := (W.rep _ _ e).isList
    obtain ⟨_, hs⟩ := ops (.ref al) (.ref sl)
    have sz : vs.toArray.size = xs.length := hl.length
    refine tail_any bl.typeIs slot_list_getitem.lookup hs ?_
    refine wpAny_getItem_list_slice bl ⟨_, hsl, rfl, rfl⟩ .none .none (.int (-1) t') (by simp) ?_ (by rw [sizeLine_eq, sz]; omega)
    rw [rev_pick]
    have nH := W.fresh fresh
    refine P (.ref s.heap.objs.size) _ _ _ ⟨rfl, rfl, rfl⟩ ((Step.push _ _ _ _).alloc fresh) ?_ (V_ref.mpr rfl) (h _ nH)
    refine (W.push _).alloc nH (W.freshB fresh) ⟨_, _, push_new _, ?_⟩
    exact (hl.mono fun a ob e _ => Heap.get?_push_of_some _ e).reverse
end

-- L3

section
variable {prog : Program} {w : World} {B : Heap} {A : Around} {E : Value → Shared → Prop} {s : Shared} {H : AHeap} {K : Frag} {mg mb : Str → Option Value}

theorem set_list {l : Addr} {items : Array Value} {n : Nat} {k : Int} {t : Tok} {v : Value} {j : Nat} {Q : Unit → Shared → Prop} (ho : s.heap.get? l = some { cls := .type "list", data := .seq items n })
    (hf : -(2 ^ 63) ≤ k ∧ k < 2 ^ 63) (hidx : seqIndex? k items.size = some j) (hj : j < items.size)
    (hQ : ∀ h', h'.get? l = some { cls := .type "list", data := .seq (items.setIfInBounds j v) n } → Heap.SameBut l s.heap h' → Q () { s with heap := h' }) :
    wpAny (model prog w) A (setItem (.ref l) (.int k t) v) Q E s := by
  have hl : s.heap.IsList l items := ⟨_, ho, rfl, n, rfl⟩
  unfold setItem
  try with_reducible refine wpAny_holding ?_
  first | refine wpAny_bind (wpAny_pure ?_) | skip
  refine wpAny_bind (wpAny_sequenceKey hl.typeIs (by decide) ?_)
  refine wpAny_bind (wpAny_callSpecial?_slot (name := Str.ofString "__setitem__") hl.typeIs slot_list_setitem
    (wpAny_call_entry slot_list_setitem hl.typeIs entry_list_setitem ?_ (args_list_setitem _ _ _)))
  show wpAny _ _ (Builtin.List.listSubscript? (.int k t) >>= _) _ _ s
  have hfit : Builtin.List.listFitsIndex k = true := by
    unfold Builtin.List.listFitsIndex; simp only [Bool.and_eq_true, decide_eq_true_eq]; omega
  refine wpAny_bind (wpAny_listSubscript_int hfit ?_)
  clear hfit hf
  have hx' : items[j]? = some items[j] := Array.getElem?_eq_getElem hj
  have fin : ∀ (A' : Around) (E' : Value → Shared → Prop), wpAny (model prog w) A' (setSeqItemAt l j v) (fun _ s' => Q () s') E' s := fun A' E' => by
    have e1 : Obj.mapSeq (·.setIfInBounds j v) { cls := .type "list", data := .seq items n } = { cls := .type "list", data := .seq (items.setIfInBounds j v) n } := by simp [Obj.mapSeq]
    refine wpAny_setSeqItemAt ho rfl (hQ _ ?_ (Heap.SameBut.update ..))
    rw [Heap.get?_update_self _ ho (by rw [e1]; rfl), e1]
  cases k with
  | ofNat q =>
    have : q = j := by
      simp only [seqIndex?] at hidx
      split at hidx
      · rename_i z; cases z
      · split at hidx
        · exact Option.some.inj hidx
        · cases hidx
    subst this
    show wpAny _ _ ((seqItemAt l q >>= fun r => pure (r.map (q, ·))) >>= _) _ _ s
    refine wpAny_bind (wpAny_bind (wpAny_seqItemAt ho rfl (wpAny_pure ?_)))
    rw [hx']
    show wpAny _ _ (setSeqItemAt l q v >>= _) _ _ s
    refine wpAny_bind (wpAny_mono (fin _ _) (fun _ s' hq => ?_) fun _ _ x => x)
    first
      | exact wpAny_bind (wpAny_pure (wpAny_pure ⟨.none, rfl, wpAny_pure hq⟩))
      | exact wpAny_pure ⟨.none, rfl, wpAny_pure hq⟩
  | negSucc q =>
    show wpAny _ _ ((Builtin.List.listItems (.ref l) >>= fun xs => pure ((seqIndex? (Int.negSucc q) xs.size).bind fun i => xs[i]?.map (i, ·))) >>= _) _ _ s
    refine wpAny_bind (wpAny_bind ?_)
    show wpAny _ _ (seqItems? (.ref l) >>= _) _ _ s
    refine wpAny_bind (wpAny_seqItems ho rfl (wpAny_pure (wpAny_pure ?_)))
    rw [hidx]
    simp only [Option.bind_some, hx', Option.map_some]
    show wpAny _ _ (setSeqItemAt l j v >>= _) _ _ s
    refine wpAny_bind (wpAny_mono (fin _ _) (fun _ s' hq => ?_) fun _ _ x => x)
    first
      | exact wpAny_bind (wpAny_pure (wpAny_pure ⟨.none, rfl, wpAny_pure hq⟩))
      | exact wpAny_pure ⟨.none, rfl, wpAny_pure hq⟩

theorem kv_map {K α : Type} [DecidableEq K] [DecidableEq α] {h : Heap} (g : K → α) (gi : ∀ a b, g a = g b → a = b) (k : K) {p : PV} {v : Value} (hp : V B h p v) : ∀ {kvs : List (α × PV)} {kv : List (K × Value)}, kv.map (fun p => g p.1) = kvs.map (·.1) → VL B h (kvs.map (·.2)) (kv.map (·.2)) →
    (kv.map fun q => if q.1 = k then (q.1, v) else q).map (fun p => g p.1) = (kvs.map fun q => if q.1 = g k then (q.1, p) else q).map (·.1) ∧ VL B h ((kvs.map fun q => if q.1 = g k then (q.1, p) else q).map (·.2)) ((kv.map fun q => if q.1 = k then (q.1, v) else q).map (·.2)) ∧
    (kv.any fun q => decide (q.1 = k)) = kvs.any fun q => decide (q.1 = g k)
  | [], [], _, _ => ⟨rfl, VL_nil.mpr rfl, rfl⟩
  | [], _ :: _, e, _ => by cases e
  | _ :: _, [], e, _ => by cases e
  | (a, q) :: r, (b, u) :: r', e, hv => by
    simp only [List.map_cons, List.cons.injEq] at e
    obtain ⟨e1, e2⟩ := e
    obtain ⟨v', r2, z, h1, h2⟩ := VL_cons.mp hv
    simp only [List.map_cons, List.cons.injEq] at z
    obtain ⟨rfl, z⟩ := z
    rw [← z] at h2
    obtain ⟨i1, i2, i3⟩ := kv_map g gi k hp e2 h2
    by_cases c : b = k
    · subst c
      have c' : a = g b := e1.symm
      refine ⟨?_, ?_, ?_⟩
      · simp only [List.map_cons, if_true, c', List.cons.injEq, true_and]; exact i1
      · simp only [List.map_cons, if_true, c']; exact VL_cons.mpr ⟨_, _, rfl, hp, i2⟩
      · simp only [List.any_cons, c', decide_true, Bool.true_or]
    · have c' : ¬ a = g k := fun z => c (gi _ _ (e1.trans z))
      refine ⟨?_, ?_, ?_⟩
      · simp only [List.map_cons, if_neg c, if_neg c', e1, List.cons.injEq, true_and]; exact i1
      · simp only [List.map_cons, if_neg c, if_neg c']; exact VL_cons.mpr ⟨_, _, rfl, h1, i2⟩
      · simp only [List.any_cons, decide_eq_false c, decide_eq_false c', Bool.false_or]; exact i3
theorem kv_put {K α : Type} [DecidableEq K] [DecidableEq α] {h : Heap} (g : K → α) (gi : ∀ a b, g a = g b → a = b) (k : K) {p : PV} {v : Value} (hp : V B h p v) {kvs : List (α × PV)} {kv : List (K × Value)} (e : kv.map (fun p => g p.1) = kvs.map (·.1)) (hv : VL B h (kvs.map (·.2)) (kv.map (·.2))) :
    (stored kv k v).map (fun p => g p.1) = (if kvs.any (fun q => decide (q.1 = g k)) then kvs.map (fun q => if q.1 = g k then (q.1, p) else q) else kvs ++ [(g k, p)]).map (·.1) ∧
    VL B h ((if kvs.any (fun q => decide (q.1 = g k)) then kvs.map (fun q => if q.1 = g k then (q.1, p) else q) else kvs ++ [(g k, p)]).map (·.2)) ((stored kv k v).map (·.2)) := by
  obtain ⟨i1, i2, i3⟩ := kv_map g gi k hp e hv
  unfold stored
  rw [i3]
  split
  · exact ⟨i1, i2⟩
  · rw [List.map_append, List.map_append, List.map_append, List.map_append, e]
    exact ⟨rfl, hv.append (VL_cons.mpr ⟨_, _, rfl, hp, VL_nil.mpr rfl⟩)⟩

theorem HandU.wrote {k : AHeap → Prop} {Q : Unit → Shared → Prop} (P : HandU prog w B NoX s H k Q) (W : WF prog w B H s.heap) {a : Addr} {o ao : AObj} {h' : Heap} {t : Nat} (e : H a = some o) (S : Heap.ExtBut a s.heap h')
    (r : KeepImm s.heap h' → RepO prog w B h' a ao) (h : k (H.set a ao)) : Q () { s with heap := h', toks := t } :=
  P _ _ ⟨rfl, rfl, rfl⟩ (.write e S) (W.write e S r) h
theorem SameBut_ext {a : Addr} {h h' : Heap} (x : Heap.SameBut a h h') : Heap.ExtBut a h h' := x.extBut
theorem setItem_ok {o i v : PV} {ou iu vu : Value} {k : AHeap → Prop} {Q : Unit → Shared → Prop} (G : GH K B mg mb) (W : WF prog w B H s.heap) (ho : V B s.heap o ou) (hi : V B s.heap i iu) (hv : V B s.heap v vu)
    (P : HandU prog w B NoX s H k Q) (h : setItemW o i v H k) : wpAny (model prog w) A (setItem ou iu vu) Q E s := by
  cases h with
  | @list a x n j e c q lt h =>
    cases V_ref.mp ho
    obtain ⟨t, rfl⟩ := V_int.mp hi
    obtain ⟨vs, nn, ho, hvl⟩ := W.rep _ _ e
    have sz : vs.toArray.size = x.length := hvl.length
    refine set_list ho c (j := j) (by rw [sz]; exact q) (by rw [sz]; exact lt) fun h' ho' S => ?_
    rw [List.setIfInBounds_toArray] at ho'
    refine P.wrote W e S.extBut (fun ki => ?_) h
    exact ⟨_, _, ho', VL.set (hv.mono ki) _ (hvl.mono ki)⟩
  | @idict a kvs n e z h =>
    cases V_ref.mp ho
    obtain ⟨t, rfl⟩ := V_int.mp hi
    obtain ⟨kv, d, hk, hvl⟩ := W.rep _ _ e
    have hn : kv.length = kvs.length := by have := congrArg List.length hk; rw [List.length_map, List.length_map] at this; exact this
    refine wpAny_setItem_pairs (knd := intKind prog w) (isInt_self _ t) d (fun h' d' S => ?_) (by rw [sizeLine_eq]; omega)
    refine P.wrote W e S.extBut (fun ki => ?_) h
    have := kv_put (fun i : Int => i) (fun _ _ e => e) n (hv.mono ki) hk (hvl.mono ki)
    exact ⟨_, d', this.1, this.2⟩
  | @idict0 a n ep e h =>
    cases V_ref.mp ho
    obtain ⟨t, rfl⟩ := V_int.mp hi
    refine wpAny_setItem_pairs (knd := intKind prog w) (isInt_self _ t) (empty_dict (W.rep _ _ e)) (fun h' d' S => ?_) (Nat.zero_le _)
    refine P.wrote W e S.extBut (fun ki => ?_) h
    exact ⟨_, d', rfl, VL_cons.mpr ⟨_, _, rfl, hv.mono ki, VL_nil.mpr rfl⟩⟩
  | @sdict a kvs ep x e z h =>
    cases V_ref.mp ho
    obtain ⟨t, rfl⟩ := V_str.mp hi
    obtain ⟨kv, d, hk, hvl⟩ := W.rep _ _ e
    have hn : kv.length = kvs.length := by have := congrArg List.length hk; rw [List.length_map, List.length_map] at this; exact this
    refine wpAny_setItem_pairs (knd := strKind prog w) (isStrOf_self _ t) d.dictOf (fun h' d' S => ?_) (by rw [sizeLine_eq]; omega)
    obtain ⟨ep', d'⟩ := d'.dictAt
    refine P.wrote W e S.extBut (fun ki => ?_) (h ep')
    have := kv_put (fun s : Str => s.cps.toList) str_inj ⟨x.toArray⟩ (hv.mono ki) hk (hvl.mono ki)
    exact ⟨_, d', this.1, this.2⟩
end

-- L4

/-- what is known of the class -/
structure CurOk (K : Frag) : Prop where
  cA : ∀ name, name ∈ curAttrs → plainGet K curC name = true ∧ findIn K (.ref curC) name = some none ∧ takerIn K curC name = some none
  cH : hasDictIn K curC = true
  cS : findIn K (.ref curC) "__setattr__" = some (some (.builtin "object.__setattr__"))
  cP : plainOver K curC = true
  cM : ∀ name f, curMeths.lookup name = some f → plainGet K curC name = true ∧ findIn K (.ref curC) name = some (some (.ref f)) ∧ isFn K (.ref f) = true

section
variable {prog : Program} {w : World} {B : Heap} {A : Around} {E : Value → Shared → Prop} {s : Shared} {H : AHeap} {K : Frag} {mg mb : Str → Option Value}

theorem attrs_len {h : Heap} : ∀ {kvs : List (Str × PV)} {es : List DictEntry}, AttrsAre B h kvs es → es.length = kvs.length
  | [], _, x => by subst x; rfl
  | _ :: _, _, ⟨e, r, t, q, _, _, d⟩ => by subst q; simp [attrs_len d]
theorem isStr_str (x name : Str) (t : Tok) : (Value.str x t).isStr name = decide (x = name) := by
  show (x == name) = _
  exact beq_dec x name
theorem attrs_noref {h : Heap} : ∀ {kvs : List (Str × PV)} {es : List DictEntry}, AttrsAre B h kvs es → es.any (·.refKey) = false
  | [], _, x => by subst x; rfl
  | _ :: _, _, ⟨e, r, t, q, k, _, d⟩ => by
    subst q
    rw [List.any_cons, attrs_noref d, Bool.or_false]
    unfold DictEntry.refKey; rw [k]
theorem attr_get {h : Heap} (name : Str) : ∀ {kvs : List (Str × PV)} {es : List DictEntry}, AttrsAre B h kvs es →
    (∃ p v, aget kvs name = some p ∧ getL name es = some (some v) ∧ V B h p v) ∨ (aget kvs name = none ∧ getL name es = some none)
  | [], _, x => by subst x; exact .inr ⟨rfl, rfl⟩
  | (y, p) :: kvs, _, ⟨e, r, t, q, k, v, d⟩ => by
    subst q
    have nr := attrs_noref (B := B) (h := h) (kvs := (y, p) :: kvs) ⟨e, r, t, rfl, k, v, d⟩
    by_cases c : y = name
    · left
      refine ⟨p, e.val, ?_, ?_, v⟩
      · simp [aget, c]
      · simp [getL, List.find?_cons, k, isStr_str, c]
    · have e1 : aget ((y, p) :: kvs) name = aget kvs name := by simp [aget, List.find?_cons, c]
      have e2 : getL name (e :: r) = getL name r := by
        unfold getL
        rw [List.find?_cons, k, isStr_str, decide_eq_false c, List.any_cons]
        rw [List.any_cons, Bool.or_eq_false_iff] at nr
        rw [nr.1, Bool.false_or]
      rw [e1, e2]
      exact attr_get name d
theorem attr_put {h : Heap} (name : Str) {p : PV} {v : Value} (hsh : Int) (t : Tok) (hv : V B h p v) : ∀ {kvs : List (Str × PV)} {es : List DictEntry}, AttrsAre B h kvs es → AttrsAre B h (aput kvs name p) (putL name hsh (.str name t) v es)
  | [], _, x => by subst x; exact ⟨_, _, t, rfl, rfl, hv, rfl⟩
  | (y, q) :: kvs, _, ⟨e, r, t', z, k, u, d⟩ => by
    subst z
    by_cases c : y = name
    · simp only [aput_cons, c, if_true, putL, k, isStr_str, decide_true]
      refine ⟨_, _, t', rfl, ?_, hv, d⟩
      simp only [k, c]
    · simp only [aput_cons, c, if_false, putL, k, isStr_str, decide_false, Bool.false_eq_true]
      exact ⟨_, _, t', rfl, k, u, attr_put name hsh t hv d⟩

theorem attr_ok {o : PV} {ou : Value} {name : Str} {k : PV → Prop} {Q : Value → Shared → Prop} (G : GH K B mg mb) (C : CurOk K) (W : WF prog w B H s.heap) (ho : V B s.heap o ou)
    (P : ∀ pv v t, V B s.heap pv v → k pv → Q v { s with toks := t }) (h : attrW o name H k) : wpAny (model prog w) A (getAttr ou name true) Q E s := by
  unfold attrW at h
  split at h
  · rename_i a
    cases V_ref.mp ho
    split at h
    · rename_i C' dx e
      obtain ⟨rfl, hn, h⟩ := h
      split at h
      · rename_i kvs e2
        obtain ⟨es, n, hd, ha⟩ := W.rep _ _ e2
        have hi := W.rep _ _ e
        have X : K.In s.heap := G.X.keeps W.base
        have I : InstAt s.heap a (instObj curC dx) curC (some (dictOf es n)) := ⟨hi, rfl, rfl, hd⟩
        obtain ⟨c1, c2, c3⟩ := C.cA name hn
        rcases attr_get name ha with ⟨p, v, g1, g2, hv⟩ | ⟨g1, _⟩
        · rw [g1] at h
          refine get_value (v := v) X I (plainGet_of c1).1 (findObj_own C.cH c2 rfl g2) ?_ ?_
          · split at h
            · rename_i z; cases z; obtain ⟨_, _, rfl, _⟩ := V_bytes.mp hv; rfl
            · rename_i z; cases z; obtain ⟨_, rfl⟩ := V_int.mp hv; rfl
            · exact h.elim
          · split at h
            · rename_i z; cases z; exact P _ _ _ hv h
            · rename_i z; cases z; exact P _ _ _ hv h
            · exact h.elim
        · rw [g1] at h; exact h.elim
      · exact h.elim
    · exact h.elim
  · exact h.elim

theorem osa_own {R : Result → Shared → Prop} {x C dx : Addr} {es : List DictEntry} {n : Nat} {name : Str} {tk : Tok} {v : Value} (X : K.In s.heap) (hi : s.heap.get? x = some (instObj C dx)) (hd : s.heap.get? dx = some (dictOf es n))
    (hp : plainOver K C = true) (ht : takerIn K C name = some none) (hh : hasDictIn K C = true) (hl : es.any (·.refKey) = false) (hz : es.length ≤ 900)
    (h : ∀ h' t hsh n', h'.get? dx = some (dictOf (putL name hsh (.str name t) v es) n') → Heap.SameBut dx s.heap h' → R (.ok (.ret .none)) { s with heap := h', toks := s.toks + 1 }) :
    codeAny (model prog w) A (.call (.builtin "object.__setattr__") ⟨[.ref x, .str name tk, v], []⟩) R s := by
  have I : InstAt s.heap x (instObj C dx) C (some (dictOf es n)) := ⟨hi, rfl, rfl, hd⟩
  refine osa_open X I hp ht fun b => ?_
  obtain ⟨cd, hc, hd'⟩ := any_some hh
  have e : Obj.putName name (PyData.keyHash w.params name) (.str name s.toks) v (dictOf es n) = dictOf (putL name (PyData.keyHash w.params name) (.str name s.toks) v es) (putN name es n) := putName_dict _ _ _ _ _ _
  refine wpAny_bind (wpAny_pure (wpAny_bind (wpAny_bind (wpAny_loadPart hi (wpAny_bind ((looks_clsIn X hc).here ?_))))))
  rw [hd']
  refine wpAny_pure (a := some dx) (wpAny_bind (wpAny_pure (wpAny_bind ?_)))
  unfold nsSet
  refine wpAny_bind (wpAny_bind (wpAny_askSetting (wpAny_pure (wpAny_bind (wpAny_mkText (wpAny_bind (wpAny_loadPart hd ?_)))))))
  dsimp only
  have c : (!es.toArray.any (·.key.isStr name) && es.toArray.any (·.refKey)) = false := by
    have e2 : es.toArray.any (·.refKey) = false := by rw [← Array.any_toList]; exact hl
    rw [e2, Bool.and_false]
  rw [aRefKeyMayBeTheName_at, c]
  have D' : (s.heap.update dx (Obj.putName name (PyData.keyHash w.params name) (.str name s.toks) v)).get? dx = some (dictOf (putL name (PyData.keyHash w.params name) (.str name s.toks) v es) (putN name es n)) := by
    rw [Heap.get?_update_self _ hd (by rw [e]; rfl), e]
  have len : ∀ (l : List DictEntry) hsh key v, (putL name hsh key v l).length ≤ l.length + 1 := by
    intro l hsh key v
    induction l with
    | nil => simp [putL]
    | cons e r ih => unfold putL; split <;> simp; omega
  refine wpAny_updatePart hd ?_
  refine wpAny_bind (wpAny_lookBehind D' (pastItsLine_dict (by rw [List.size_toArray, sizeLine_eq]; have := len es (PyData.keyHash w.params name) (.str name s.toks) v; omega)) ?_)
  exact wpAny_pure (h _ _ _ _ D' (Heap.SameBut.update ..))
theorem set_own {x C dx : Addr} {es : List DictEntry} {n : Nat} {name : Str} {v : Value} {Q : Unit → Shared → Prop} (X : K.In s.heap) (hi : s.heap.get? x = some (instObj C dx)) (hd : s.heap.get? dx = some (dictOf es n))
    (hs : findIn K (.ref C) "__setattr__" = some (some (.builtin "object.__setattr__"))) (hp : plainOver K C = true) (ht : takerIn K C name = some none) (hh : hasDictIn K C = true) (hl : es.any (·.refKey) = false) (hz : es.length ≤ 900)
    (h : ∀ h' t hsh n', h'.get? dx = some (dictOf (putL name hsh (.str name t) v es) n') → Heap.SameBut dx s.heap h' → Q () { s with heap := h', toks := s.toks + 2 }) :
    wpAny (model prog w) A (setAttr (.ref x) name v) Q E s :=
  set_plain (od := some (dictOf es n)) X ⟨hi, rfl, rfl, hd⟩ hs (osa_own (s := { s with toks := s.toks + 1 }) X hi hd hp ht hh hl hz fun h' t hsh n' a b => h h' t hsh n' a b)

theorem setAttr_ok {o v : PV} {ou vu : Value} {name : Str} {k : AHeap → Prop} {Q : Unit → Shared → Prop} (G : GH K B mg mb) (C : CurOk K) (W : WF prog w B H s.heap) (ho : V B s.heap o ou) (hv : V B s.heap v vu)
    (P : HandU prog w B NoX s H k Q) (h : setAttrW o name v H k) : wpAny (model prog w) A (setAttr ou name vu) Q E s := by
  unfold setAttrW at h
  split at h
  · rename_i a
    cases V_ref.mp ho
    split at h
    · rename_i C' dx e
      obtain ⟨rfl, hn, h⟩ := h
      split at h
      · rename_i kvs e2
        obtain ⟨es, n, hd, ha⟩ := W.rep _ _ e2
        have hi := W.rep _ _ e
        have X : K.In s.heap := G.X.keeps W.base
        obtain ⟨c1, c2, c3⟩ := C.cA name hn
        refine set_own X hi hd C.cS C.cP c3 C.cH (attrs_noref ha) (by rw [attrs_len ha]; exact h.1) fun h' t hsh n' hd' S => ?_
        refine P.wrote W e2 S.extBut (fun ki => ?_) h.2
        exact ⟨_, _, hd', attr_put name _ _ (hv.mono ki) (ha.mono ki)⟩
      · exact h.elim
    · exact h.elim
  · exact h.elim
end

-- L5

theorem slot_bjoin : Slot "bytes" "join" "bytes.join" :=
  .of (owner := "bytes") (n := "join") (by rw [typeLookup_type, builtinLookup_eq_fast]; kernel_rfl) (by decide +kernel) (by decide +kernel) (by decide +kernel)
    (by first | exact .inl (by decide +kernel) | exact .inr (by decide +kernel)) (by rw [isSubtype_type]; kernel_rfl)
theorem type_bjoin : typeOf (.builtin "bytes.join") = pure (.type "method_descriptor") := by show builtinType _ = _; rw [builtinType_eq_fast]; kernel_rfl
theorem entry_bjoin : entryFor table "bytes.join" = some Builtin.«bytes.join» := entryFor_of_tree (by kernel_rfl)
theorem args_bjoin (a b : Value) : argsOk "bytes.join" ⟨[a, b], []⟩ := by
  unfold argsOk; rw [signature?_of (id := "bytes.join") (n := ['n', 'i', 'o', 'j']) (o := ['s', 'e', 't', 'y', 'b']) (by kernel_rfl) FB.owner_bytes]; kernel_rfl
theorem slot_bsplit : Slot "bytes" "split" "bytes.split" :=
  .of (owner := "bytes") (n := "split") (by rw [typeLookup_type, builtinLookup_eq_fast]; kernel_rfl) (by decide +kernel) (by decide +kernel) (by decide +kernel)
    (by first | exact .inl (by decide +kernel) | exact .inr (by decide +kernel)) (by rw [isSubtype_type]; kernel_rfl)
theorem type_bsplit : typeOf (.builtin "bytes.split") = pure (.type "method_descriptor") := by show builtinType _ = _; rw [builtinType_eq_fast]; kernel_rfl
theorem entry_bsplit : entryFor table "bytes.split" = some Builtin.«bytes.split» := entryFor_of_tree (by kernel_rfl)
theorem args_bsplit (a b c : Value) : argsOk "bytes.split" ⟨[a, b, c], []⟩ := by
  unfold argsOk; rw [signature?_of (id := "bytes.split") (n := ['t', 'i', 'l', 'p', 's']) (o := ['s', 'e', 't', 'y', 'b']) (by kernel_rfl) FB.owner_bytes]; kernel_rfl
theorem slot_bindex : Slot "bytes" "index" "bytes.index" :=
  .of (owner := "bytes") (n := "index") (by rw [typeLookup_type, builtinLookup_eq_fast]; kernel_rfl) (by decide +kernel) (by decide +kernel) (by decide +kernel)
    (by first | exact .inl (by decide +kernel) | exact .inr (by decide +kernel)) (by rw [isSubtype_type]; kernel_rfl)
theorem type_bindex : typeOf (.builtin "bytes.index") = pure (.type "method_descriptor") := by show builtinType _ = _; rw [builtinType_eq_fast]; kernel_rfl
theorem entry_bindex : entryFor table "bytes.index" = some Builtin.«bytes.index» := entryFor_of_tree (by kernel_rfl)
theorem args_bindex (a b : Value) : argsOk "bytes.index" ⟨[a, b], []⟩ := by
  unfold argsOk; rw [signature?_of (id := "bytes.index") (n := ['x', 'e', 'd', 'n', 'i']) (o := ['s', 'e', 't', 'y', 'b']) (by kernel_rfl) FB.owner_bytes]; kernel_rfl

section
variable {prog : Program} {w : World} {B : Heap} {A : Around} {E : Value → Shared → Prop} {s : Shared} {H : AHeap} {K : Frag} {mg mb : Str → Option Value}

theorem meth_ok {o f : PV} {ou : Value} {name : Str} {pl : Sem Bool} {Q : Value × List Value → Shared → Prop} (G : GH K B mg mb) (C : CurOk K) (W : WF prog w B H s.heap) (ho : V B s.heap o ou) (h : methW o name H = some f)
    (hQ : ∀ fv, V B s.heap f fv → Q (fv, [ou]) s) : wpAny (model prog w) A (getMethod ou name pl) Q E s := by
  unfold methW at h
  split at h
  · obtain ⟨t, rfl⟩ := V_str.mp ho
    have go : ∀ {n : Str} {id : String}, Slot "str" n id → typeOf (.builtin id) = pure (.type "method_descriptor") → name = n → PV.bi id = f → wpAny (model prog w) A (getMethod (.str _ t) name pl) Q E s := fun {n id} sl ty e z => by
      subst e z
      exact getMethod_builtin (typeIs_str s _ t) PySem.F.plainAttrs_str sl ty (fun _ e => nomatch e) (hQ _ (V_bi.mpr rfl))
    split at h
    · rename_i e; exact go PySem.F.slot_str_join PySem.F.type_str_join e (Option.some.inj h)
    · split at h
      · rename_i e; exact go PySem.F.slot_str_find PySem.F.type_str_find e (Option.some.inj h)
      · cases h
  · obtain ⟨arr, t, rfl, _⟩ := V_bytes.mp ho
    have go : ∀ {n : Str} {id : String}, Slot "bytes" n id → typeOf (.builtin id) = pure (.type "method_descriptor") → name = n → PV.bi id = f → wpAny (model prog w) A (getMethod (.bytes arr t) name pl) Q E s := fun {n id} sl ty e z => by
      subst e z
      exact getMethod_builtin (typeIs_bytes s _ t) FB.plainAttrs_bytes sl ty (fun _ e => nomatch e) (hQ _ (V_bi.mpr rfl))
    split at h
    · rename_i e; exact go slot_bjoin type_bjoin e (Option.some.inj h)
    · split at h
      · rename_i e; exact go slot_bsplit type_bsplit e (Option.some.inj h)
      · split at h
        · rename_i e; exact go slot_bindex type_bindex e (Option.some.inj h)
        · cases h
  · rename_i a
    cases V_ref.mp ho
    split at h
    · rename_i l e
      obtain ⟨vs, n, hl, _⟩ := W.rep _ _ e
      have go : ∀ {n : Str} {id : String}, Slot "list" n id → typeOf (.builtin id) = pure (.type "method_descriptor") → name = n → PV.bi id = f → wpAny (model prog w) A (getMethod (.ref a) name pl) Q E s := fun {n id} sl ty e z => by
        subst e z
        exact getMethod_builtin (T := "list") ⟨_, hl, rfl⟩ PySem.F.plainAttrs_list sl ty (fun b e => by cases e; exact ⟨_, hl, rfl⟩) (hQ _ (V_bi.mpr rfl))
      split at h
      · rename_i e; exact go PySem.F.slot_list_append PySem.F.type_list_append e (Option.some.inj h)
      · split at h
        · rename_i e; exact go PySem.F.slot_list_insert PySem.F.type_list_insert e (Option.some.inj h)
        · cases h
    · rename_i kvs ep e
      obtain ⟨kv, d, _⟩ := W.rep _ _ e
      split at h
      · rename_i e
        cases Option.some.inj h
        subst e
        exact getMethod_builtin d.dictOf.typeIs PySem.F.plainAttrs_dict PySem.F.slot_dict_get PySem.F.type_dict_get d.dictOf.mapOf.noDict (hQ _ (V_bi.mpr rfl))
      · cases h
    · rename_i kvs e
      obtain ⟨kv, d, _⟩ := W.rep _ _ e
      split at h
      · rename_i e
        cases Option.some.inj h
        subst e
        exact getMethod_builtin d.typeIs PySem.F.plainAttrs_dict PySem.F.slot_dict_get PySem.F.type_dict_get d.mapOf.noDict (hQ _ (V_bi.mpr rfl))
      · cases h
    · rename_i C' dx e
      split at h
      · rename_i e1
        subst e1
        split at h
        · rename_i kvs e2
          obtain ⟨es, n, hd, ha⟩ := W.rep _ _ e2
          have hi := W.rep _ _ e
          have X : K.In s.heap := G.X.keeps W.base
          have I : InstAt s.heap a (instObj curC dx) curC (some (dictOf es n)) := ⟨hi, rfl, rfl, hd⟩
          split at h
          · rename_i e3
            cases e4 : curMeths.lookup name with
            | none => rw [e4] at h; cases h
            | some fa =>
              rw [e4] at h
              cases Option.some.inj h
              obtain ⟨c1, c2, c3⟩ := C.cM name fa e4
              rcases attr_get name ha with ⟨p, v, g1, g2, hv⟩ | ⟨g1, g2⟩
              · rw [g1] at e3; cases e3
              · exact method_fn X I (plainGet_of c1).1 (plainGet_of c1).2 c2 (beq_iff_eq.mp c3) (by show (lookIn name (dictOf es n)).map _ = _; rw [lookIn_dict, g2]; rfl) (hQ _ (V_ref.mpr rfl))
          · cases h
        · cases h
      · cases h
    · cases h
  · cases h
end

-- L6
section
open PySem.Builtin

theorem look_ibuffer : typeLookup (.type "int") "__buffer__" = pure none := by rw [typeLookup_type, builtinLookup_eq_fast]; kernel_rfl
theorem ibuffer_eq {id : String} {i : Int} {u : Tok} : Bytes.buffer? id (.int i u) = pure none := by
  have e : specialOf (.int i u) "__buffer__" = pure none := (rfl : specialOf (.int i u) "__buffer__" = typeLookup (.type "int") "__buffer__").trans look_ibuffer
  unfold Bytes.buffer?
  rw [e]
  rfl
theorem special_index {i : Int} {u : Tok} : specialOf (.int i u) "__index__" = pure (some (.builtin "int.__index__")) :=
  (rfl : specialOf (.int i u) "__index__" = typeLookup (.type "int") "__index__").trans PySem.F.slot_int_index.lookup
theorem payload_eq {b : Array UInt8} {t : Tok} : Bytes.payload (.bytes b t) = pure b := rfl
theorem indexHeld_eq {b : Array UInt8} {t u : Tok} {i : Int} : Bytes.indexHeld [.bytes b t] (.int i u) = pure i := rfl

theorem find_congr {α : Type} {p q : α → Bool} : ∀ {l : List α}, (∀ x ∈ l, p x = q x) → l.find? p = l.find? q
  | [], _ => rfl
  | x :: l, h => by
    rw [List.find?_cons, List.find?_cons, h x (List.mem_cons_self ..), find_congr fun y hy => h y (List.mem_cons_of_mem _ hy)]
theorem extract_one (b : Array UInt8) (c : UInt8) {i : Nat} (hi : i < b.size) : (b.extract i (i + (#[c] : Array UInt8).size) == #[c]) = (b[i]? == some c) := by
  have : b.extract i (i + 1) = #[b[i]] := by
    apply Array.ext
    · simp; omega
    · intro j h1 h2
      have : j = 0 := by simp at h2; omega
      subst this
      simp
  show (b.extract i (i + 1) == #[c]) = _
  rw [this, Array.getElem?_eq_getElem hi]
  simp
theorem find_one (b : Array UInt8) (c : UInt8) : Bytes.find? b #[c] 0 b.size = (List.range b.size).find? fun i => b[i]? == some c := by
  unfold Bytes.find?
  have e : b.size + 1 - (0 + (#[c] : Array UInt8).size) = b.size := by simp
  rw [e]
  simp only [Nat.add_zero, List.map_id']
  exact find_congr fun i hi => extract_one b c (List.mem_range.mp hi)
theorem idx_find (l : List Nat) (c : Nat) (h : c ∈ l) : (List.range l.length).find? (fun i => l[i]? == some c) = some (l.idxOf c) := by
  have lt := List.idxOf_lt_length_iff.mpr h
  rw [List.find?_eq_some_iff_append]
  refine ⟨?_, List.range (l.idxOf c), (List.range (l.length - l.idxOf c - 1)).map (fun j => l.idxOf c + 1 + j), ?_, ?_⟩
  · rw [List.getElem?_eq_getElem lt, List.getElem_idxOf lt]; simp
  · have : l.length = l.idxOf c + 1 + (l.length - l.idxOf c - 1) := by omega
    conv => lhs; rw [this]
    rw [List.range_add, List.range_succ, List.append_assoc]; rfl
  · intro j hj
    have hj := List.mem_range.mp hj
    have := List.not_of_lt_findIdx (p := fun x => x == c) (xs := l) hj
    rw [List.getElem?_eq_getElem (by omega)]
    simpa using this

theorem gives_index (b : Array UInt8) (t u : Tok) {i : Int} {l : List Nat} (e : b.toList.map (·.toNat) = l) (h0 : 0 ≤ i) (h1 : i < 256) (h : i.toNat ∈ l) :
    Gives («bytes.index» ⟨[.bytes b t, .int i u], []⟩) (.int (l.idxOf i.toNat)) := by
  refine .of_wp fun M A E s Q hq => ?_
  have sz := size_of_map e
  have pos : 0 < b.size := by rw [sz]; exact List.length_pos_of_mem h
  have hf : Bytes.find? b #[i.toNat.toUInt8] 0 b.size = some (l.idxOf i.toNat) := by
    rw [find_one, ← idx_find l i.toNat h, sz]
    refine find_congr fun j hj => ?_
    have hj' := List.mem_range.mp hj
    subst e
    rw [List.getElem?_map, ← Array.getElem?_toList]
    rw [List.getElem?_eq_getElem (by simpa using hj')]
    have hx : (i.toNat.toUInt8).toNat = i.toNat := by rw [Nat.toUInt8, UInt8.toNat_ofNat']; omega
    simp only [Option.map_some]
    rw [Bool.eq_iff_iff]
    simp only [beq_iff_eq, Option.some.injEq]
    constructor
    · intro z; rw [z, hx]
    · intro z; exact UInt8.toNat_inj.mp (by rw [z, hx])
  show wpAny M A (Bytes.searchArgs .bytes "index" ⟨[.bytes b t, .int i u], []⟩ >>= fun r => _) _ E s
  refine wpAny_bind ?_
  unfold Bytes.searchArgs
  refine wpAny_bind (wpAny_of_eq (a := (.bytes b t, [.int i u])) rfl ?_)
  refine wpAny_bind (wpAny_of_eq (a := none) rfl ?_)
  refine wpAny_bind (wpAny_of_eq (a := none) rfl ?_)
  refine wpAny_bind (wpAny_of_eq ibuffer_eq ?_)
  dsimp only
  refine wpAny_bind (wpAny_of_eq special_index ?_)
  refine wpAny_bind (wpAny_of_eq indexHeld_eq ?_)
  rw [if_neg (by simp; omega)]
  refine wpAny_bind (wpAny_pure ?_)
  refine wpAny_bind (wpAny_of_eq payload_eq ?_)
  refine wpAny_pure ?_
  have ew : Bytes.window b.size none none = (0, (b.size : Int)) := by
    have : ¬ ((b.size : Int) < 0) := by omega
    simp [Bytes.window, this]
  dsimp only
  rw [ew]
  simp only [Int.sub_zero]
  rw [if_neg (by simp; omega)]
  simp only [Option.bind_some, Int.toNat_natCast, Int.toNat_zero]
  show wpAny M A (match Bytes.find? b #[i.toNat.toUInt8] 0 b.size with | some i => _ | none => _) _ E s
  rw [hf]
  exact wpAny_bind (wpAny_mkInt (wpAny_pure ⟨_, rfl, hq⟩))

end

-- L7
section
open PySem.Builtin

/-- values that are these bytes -/
noncomputable def BsAre (vs : List Value) (ps : List (List Nat)) : Prop := ∀ B h, VL B h (ps.map .bytes) vs
theorem BsAre.nil : BsAre [] [] := fun _ _ => VL_nil.mpr rfl
theorem BsAre.cons {vs : List Value} {ps : List (List Nat)} {b : Array UInt8} {t : Tok} {p : List Nat} (e : b.toList.map (·.toNat) = p) (r : BsAre vs ps) : BsAre (.bytes b t :: vs) (p :: ps) :=
  fun B h => VL_cons.mpr ⟨_, _, rfl, V_bytes.mpr ⟨b, t, rfl, e⟩, r B h⟩
noncomputable def natsOf (b : Array UInt8) : List Nat := b.toList.map (·.toNat)
theorem mapM_bytes {M : Model} {A : Around} {E : Value → Shared → Prop} : ∀ (ps : List (Array UInt8)) (s : Shared) (Q : List Value → Shared → Prop), (∀ p ∈ ps, p.size ≤ sizeLine) →
    (∀ vs t, vs.length = ps.length → BsAre vs (ps.map natsOf) → Q vs { s with toks := t }) → wpAny M A (ps.mapM (Bytes.Kind.new .bytes)) Q E s
  | [], s, Q, _, h => by
    rw [List.mapM_nil]
    exact wpAny_pure (h [] s.toks rfl .nil)
  | p :: r, s, Q, hs, h => by
    rw [List.mapM_cons]
    refine wpAny_bind (wpAny_mkBytes ?_ (hs p (List.mem_cons_self ..)))
    refine wpAny_bind (mapM_bytes r _ _ (fun q hq => hs q (List.mem_cons_of_mem _ hq)) fun vs t hl hb => wpAny_pure ?_)
    exact h _ t (by simp [hl]) (.cons rfl hb)

noncomputable def occL (c : Nat) : Nat → List Nat → List Nat
  | _, [] => []
  | o, x :: r => if x = c then o :: occL c (o + 1) r else occL c (o + 1) r
theorem occL_nil {c o : Nat} : occL c o [] = [] := rfl
theorem occL_cons {c o x : Nat} {r : List Nat} : occL c o (x :: r) = if x = c then o :: occL c (o + 1) r else occL c (o + 1) r := rfl
theorem occ_fold (b : Array UInt8) (c : UInt8) : ∀ (r : List UInt8) (o : Nat) (acc : List Nat) (free : Nat), b.toList.drop o = r → free ≤ o →
    (((List.range' o r.length).foldl (fun (acc : List Nat × Nat) (i : Nat) => if i ≥ acc.2 && b.extract i (i + (#[c] : Array UInt8).size) == #[c] then (i :: acc.1, i + (#[c] : Array UInt8).size) else acc) (acc, free)).1).reverse = acc.reverse ++ occL c.toNat o (r.map (·.toNat))
  | [], o, acc, free, _, _ => by simp [occL_nil]
  | x :: r, o, acc, free, e, le => by
    have lt : o < b.size := by
      have := congrArg List.length e
      simp at this; omega
    have hx : b[o]? = some x := by
      rw [← Array.getElem?_toList]
      have := congrArg (fun l => l[0]?) e
      simpa using this
    have e' : b.toList.drop (o + 1) = r := by
      rw [← List.drop_drop, e]; rfl
    rw [List.length_cons, List.range'_succ, List.foldl_cons, extract_one b c lt, hx]
    simp only [List.map_cons, occL_cons]
    by_cases q : x = c
    · subst q
      rw [if_pos (by simpa using le), if_pos rfl]
      rw [occ_fold b x r (o + 1) (o :: acc) (o + (#[x] : Array UInt8).size) e' (Nat.le_refl _)]
      simp
    · have q' : ¬ x.toNat = c.toNat := fun z => q (UInt8.toNat_inj.mp z)
      rw [if_neg (by simp [q]), if_neg q']
      exact occ_fold b c r (o + 1) acc free e' (by omega)
theorem occ_eq (b : Array UInt8) (c : UInt8) : Bytes.occurrences b #[c] 0 b.size = occL c.toNat 0 (natsOf b) := by
  have := occ_fold b c b.toList 0 [] 0 (by simp) (Nat.le_refl _)
  simp only [List.reverse_nil, List.nil_append, Array.length_toList] at this
  show _ = occL c.toNat 0 (b.toList.map (·.toNat))
  rw [← this]
  unfold Bytes.occurrences
  have e : b.size + 1 - (0 + (#[c] : Array UInt8).size) = b.size := by simp
  rw [e, ← List.range_eq_range']
  simp only [Nat.add_zero, List.map_id']

noncomputable def betw (l : List Nat) : Nat → List Nat → List (List Nat)
  | o, [] => [l.drop o]
  | o, p :: ps => (l.take p).drop o :: betw l (p + 1) ps
theorem betw_nil {l : List Nat} {o : Nat} : betw l o [] = [l.drop o] := rfl
theorem betw_cons {l : List Nat} {o p : Nat} {ps : List Nat} : betw l o (p :: ps) = (l.take p).drop o :: betw l (p + 1) ps := rfl
theorem between_eq (b : Array UInt8) (places : List Nat) : ∀ (ps : List Nat) (acc : Array (Array UInt8)) (o : Nat),
    ((ps.foldl (fun ((parts, last) : Array (Array UInt8) × Nat) p => (parts.push (b.extract last p), p + 1)) (acc, o)).1.push (b.extract (ps.foldl (fun ((parts, last) : Array (Array UInt8) × Nat) p => (parts.push (b.extract last p), p + 1)) (acc, o)).2 b.size)).toList.map natsOf = acc.toList.map natsOf ++ betw (natsOf b) o ps
  | [], acc, o => by
    simp [betw_nil, natsOf]
    exact List.take_of_length_le (by simp)
  | p :: ps, acc, o => by
    rw [List.foldl_cons]
    have := between_eq b places ps (acc.push (b.extract o p)) (p + 1)
    rw [this]
    simp [betw_cons, natsOf, List.drop_take]
theorem betw_split (c : Nat) : ∀ (r pre : List Nat) (k o : Nat), o ≤ pre.length → c ∉ pre.drop o → betw (pre ++ r) o ((occL c pre.length r).take k) = splitMax c k (pre.drop o ++ r)
  | [], pre, k, o, le, nc => by
    simp only [occL_nil, List.take_nil, betw_nil, List.append_nil]
    cases k with
    | zero => rfl
    | succ k => rw [splitMax_s, if_neg nc]
  | x :: r, pre, k, o, le, nc => by
    by_cases q : x = c
    · subst q
      simp only [occL_cons, if_true]
      cases k with
      | zero =>
        simp only [List.take_zero, betw_nil, splitMax_z]
        rw [List.drop_append_of_le_length le]
      | succ k =>
        have ih := betw_split x r (pre ++ [x]) k (pre.length + 1) (by simp) (by simp)
        simp only [List.take_succ_cons, betw_cons, splitMax_s]
        rw [if_pos (by simp)]
        have t1 : ((pre.drop o ++ x :: r).takeWhile (· != x)) = pre.drop o := by
          rw [List.takeWhile_append_of_pos (fun a ha => by simp; exact fun z => nc (z ▸ ha))]
          simp
        have t2 : ((pre.drop o ++ x :: r).dropWhile (· != x)) = x :: r := by
          rw [List.dropWhile_append_of_pos (fun a ha => by simp; exact fun z => nc (z ▸ ha))]
          simp
        rw [t1, t2]
        simp only [List.length_append, List.length_cons, List.length_nil, Nat.zero_add, List.append_assoc, List.cons_append, List.nil_append] at ih
        have d0 : (pre ++ [x]).drop (pre.length + 1) = [] := by simp
        rw [d0, List.nil_append] at ih
        rw [ih]
        simp
    · simp only [occL_cons, if_neg q]
      have ih := betw_split c r (pre ++ [x]) k o (by simp; omega) (by
        rw [List.drop_append_of_le_length le]; simp [nc, Ne.symm q])
      simp only [List.length_append, List.length_cons, List.length_nil, Nat.zero_add, List.append_assoc, List.cons_append, List.nil_append, List.drop_append_of_le_length le] at ih
      exact ih
theorem split_none (c : Nat) (l : List Nat) : ∀ k, (occL c 0 l).take k = [] → splitMax c k l = [l] := fun k h => by
  have := betw_split c l [] k 0 (Nat.le_refl _) (by simp)
  simp only [List.length_nil, List.nil_append, List.drop_nil] at this
  rw [← this, h]; simp [betw]

end

-- L8
section
open PySem.Builtin

theorem betw_len (l : List Nat) : ∀ (ps : List Nat) (o : Nat), (betw l o ps).length = ps.length + 1 ∧ ∀ q ∈ betw l o ps, q.length ≤ l.length
  | [], o => ⟨rfl, fun q hq => by simp [betw] at hq; subst hq; simp⟩
  | p :: ps, o => by
    obtain ⟨a, b⟩ := betw_len l ps (p + 1)
    refine ⟨by simp [betw, a], fun q hq => ?_⟩
    simp only [betw, List.mem_cons] at hq
    rcases hq with rfl | hq
    · simp; omega
    · exact b q hq
theorem between_nats (b : Array UInt8) (ps : List Nat) : (Bytes.between b 1 ps).map natsOf = betw (natsOf b) 0 ps := by
  have := between_eq b ps ps #[] 0
  rw [show (#[] : Array (Array UInt8)).toList.map natsOf = [] from rfl, List.nil_append] at this
  exact this
theorem meets_split (b : Array UInt8) (c : UInt8) (t t' u : Tok) {n : Int} {l : List Nat} (e : natsOf b = l) (h0 : 0 ≤ n) (h1 : n < 1000) (hz : l.length ≤ 1000000) :
    Meets («bytes.split» ⟨[.bytes b t, .bytes #[c] t', .int n u], []⟩) (fun _ R s => ∀ vs tk, BsAre vs (splitMax c.toNat n.toNat l) → R (.ok (.ret (.ref s.heap.objs.size))) { s with heap := s.heap.push { cls := .type "list", data := .seq vs.toArray }, toks := tk }) := by
  refine .of_wp fun prog w A R s h => ?_
  subst e
  have sz : b.size ≤ 1000000 := by simpa [natsOf] using hz
  have eo := occ_eq b c
  have es := betw_split c.toNat (natsOf b) [] n.toNat 0 (Nat.le_refl _) (by simp)
  simp only [List.length_nil, List.nil_append, List.drop_nil] at es
  show wpAny _ _ (Bytes.bindOptional _ _ _ [.bytes #[c] t', .int n u] [] >>= fun r => _) _ _ s
  refine wpAny_bind (wpAny_of_eq (a := [some (.bytes #[c] t'), some (.int n u)]) rfl ?_)
  dsimp only
  refine wpAny_bind ?_
  unfold Bytes.countArg
  refine wpAny_bind (wpAny_of_eq (rfl : asIndex (.int n u) = pure n) ?_)
  have hf : Bytes.fitsIndex n = true := by simp [Bytes.fitsIndex]; omega
  rw [hf]
  refine wpAny_pure ?_
  refine wpAny_bind (wpAny_of_eq payload_eq ?_)
  rw [if_neg (by omega)]
  unfold Bytes.bytesLike
  refine wpAny_bind (wpAny_bind (wpAny_of_eq KBy.buffer_eq ?_))
  refine wpAny_pure ?_
  simp only [Bool.false_eq_true, if_false]
  rw [if_neg (by simp)]
  rw [eo]
  by_cases c0 : (List.take n.toNat (occL c.toNat 0 (natsOf b))).isEmpty = true
  · rw [if_pos c0]
    have e0 := split_none c.toNat (natsOf b) n.toNat (List.isEmpty_iff.mp c0)
    refine wpAny_bind (wpAny_rule (wpAny_bind ?_))
    show wpAny _ _ (typeOf (.bytes b t) >>= fun r => _) _ _ s
    refine wpAny_bind (wpAny_typeOf (typeIs_bytes s b t) ?_)
    refine wpAny_pure ?_
    refine wpAny_bind (wpAny_newList (wpAny_pure ⟨_, rfl, h _ s.toks ?_⟩) (by rw [sizeLine_eq]; simp))
    rw [e0]
    exact .cons rfl .nil
  · rw [if_neg c0]
    have bn := between_nats b (List.take n.toNat (occL c.toNat 0 (natsOf b)))
    obtain ⟨bl, bs⟩ := betw_len (natsOf b) (List.take n.toNat (occL c.toNat 0 (natsOf b))) 0
    refine wpAny_bind (mapM_bytes _ _ _ (fun p hp => ?_) fun vs tk hl hb => ?_)
    · have : natsOf p ∈ betw (natsOf b) 0 (List.take n.toNat (occL c.toNat 0 (natsOf b))) := by rw [← bn]; exact List.mem_map_of_mem hp
      have := bs _ this
      rw [sizeLine_eq]
      simp [natsOf] at this; omega
    · have len : vs.length ≤ sizeLine := by
        have := congrArg List.length bn
        rw [List.length_map, bl, List.length_take] at this
        rw [hl, sizeLine_eq]
        show (Bytes.between b 1 _).length ≤ _
        omega
      refine wpAny_bind (wpAny_newList (wpAny_pure ⟨_, rfl, h _ tk ?_⟩) len)
      rw [← es, ← bn]
      exact hb

end

-- L9
section
open PySem.Builtin

noncomputable def bvals (bs : List (Array UInt8 × Tok)) : List Value := bs.map fun p => .bytes p.1 p.2
theorem VL.bytes {B h : Heap} : ∀ {ps : List PV} {vs : List Value} {ns : List (List Nat)}, VL B h ps vs → bytesOf ps = some ns → ∃ bs, vs = bvals bs ∧ bs.map (fun p => natsOf p.1) = ns
  | [], _, _, x, e => by rw [VL_nil] at x; subst x; cases e; exact ⟨[], rfl, rfl⟩
  | p :: ps, _, _, x, e => by
    obtain ⟨v, r, rfl, a, b⟩ := VL_cons.mp x
    cases p <;> try cases e
    unfold bytesOf at e
    cases q : bytesOf ps with
    | none => rw [q] at e; cases e
    | some ns =>
      rw [q] at e; cases e
      obtain ⟨arr, t, rfl, ea⟩ := V_bytes.mp a
      obtain ⟨bs, rfl, eb⟩ := VL.bytes b q
      exact ⟨(arr, t) :: bs, rfl, by rw [← ea, ← eb]; rfl⟩

section
variable {M : Model} {A : Around} {E : Value → Shared → Prop} {s : Shared}
theorem forIn_list_rule {β : Type} {f : Nat → β → Sem (ForInStep β)} {I : Nat → β → Prop} : ∀ (n o : Nat) {init : β} {Q : β → Shared → Prop}, I o init →
    (∀ i b, o ≤ i → i < o + n → I i b → ∀ Q' : ForInStep β → Shared → Prop, (∀ b', I (i + 1) b' → Q' (.yield b') s) → wpAny M A (f i b) Q' E s) → (∀ b, I (o + n) b → Q b s) → wpAny M A (forIn (List.range' o n) init f) Q E s
  | 0, o, init, Q, h0, _, fin => wpAny_pure (fin _ h0)
  | n + 1, o, init, Q, h0, step, fin => by
    rw [List.range'_succ, List.forIn_cons]
    refine wpAny_bind (step o init (Nat.le_refl _) (by omega) h0 _ fun b' hb' => ?_)
    exact forIn_list_rule n (o + 1) hb' (fun i b h1 h2 => step i b (by omega) (by omega)) fun b hb => fin b (by rwa [show o + (n + 1) = o + 1 + n by omega])
theorem forIn_range_rule {β : Type} {f : Nat → β → Sem (ForInStep β)} (I : Nat → β → Prop) {n : Nat} {init : β} {Q : β → Shared → Prop} (h0 : I 0 init)
    (step : ∀ i b, i < n → I i b → ∀ Q' : ForInStep β → Shared → Prop, (∀ b', I (i + 1) b' → Q' (.yield b') s) → wpAny M A (f i b) Q' E s) (fin : ∀ b, I n b → Q b s) : wpAny M A (forIn [0:n] init f) Q E s := by
  have e : (forIn [0:n] init f : Sem β) = forIn (List.range' 0 n) init f := by
    rw [Std.Legacy.Range.forIn_eq_forIn_range']
    simp [Std.Legacy.Range.size]
  rw [e]
  exact forIn_list_rule n 0 h0 (fun i b _ h2 => step i b (by omega)) fun b hb => fin b (by simpa using hb)
theorem joinLetGo_rule : ∀ (l : List (Array UInt8 × Tok)) {keep : List Value} {Q : Unit → Shared → Prop}, Q () s → wpAny M A (Bytes.joinLetGo (l.map fun p => (.bytes p.1 p.2, none)) keep) Q E s
  | [], _, _, h => wpAny_pure h
  | p :: r, keep, Q, h => by
    rw [List.map_cons]
    unfold Bytes.joinLetGo
    exact wpAny_bind (wpAny_letGo (joinLetGo_rule r h))
end
theorem take_eq {id : String} {b : Array UInt8} {t : Tok} {fl : Int} : Bytes.takeBufferQuiet? id (.bytes b t) fl = pure (some (b, none)) := by
  have e : Bytes.takeBuffer? id (.bytes b t) fl = pure (some (b, none)) := by
    unfold Bytes.takeBuffer?
    rw [KBy.special_eq KBy.look_buffer, KBy.own_buffer]
    unfold Bytes.buffer?
    rw [KBy.special_eq KBy.look_buffer, KBy.own_buffer, KBy.own_release]
    kernel_rfl
  unfold Bytes.takeBufferQuiet?
  rw [e]
  rfl
theorem joinL_len (sep : List Nat) : ∀ (ps : List (List Nat)), (joinL sep ps).length = sep.length * (ps.length - 1) + (ps.map (·.length)).sum
  | [] => by simp [joinL_e0]
  | [p] => by simp [joinL_e1]
  | p :: q :: r => by
    have := joinL_len sep (q :: r)
    simp only [joinL_e2, List.length_append, this, List.length_cons, List.map_cons, List.sum_cons, Nat.add_sub_cancel]
    rw [Nat.mul_succ]; omega
theorem fold_size (l : List (Array UInt8)) : ∀ (k : Nat), l.toArray.foldl (fun a p => a + p.size) k = k + (l.map fun p => (natsOf p).length).sum := by
  induction l with
  | nil => intro k; simp
  | cons p r ih => intro k; have := ih (k + p.size); simp at this ⊢; rw [this]; simp [natsOf]; omega
theorem joined_eq (sep : Array UInt8) : ∀ (ps : List (Array UInt8)), natsOf (Bytes.joined sep ps) = joinL (natsOf sep) (ps.map natsOf)
  | [] => rfl
  | p :: r => by
    have key : ∀ (r : List (Array UInt8)) (k : Nat) (out : Array UInt8), natsOf ((r.zipIdx (k + 1)).foldl (fun out (p, i) => (if i > 0 then out ++ sep else out) ++ p) out) = natsOf out ++ (r.map fun q => natsOf sep ++ natsOf q).flatten := by
      intro r
      induction r with
      | nil => intro k out; simp
      | cons q r ih =>
        intro k out
        rw [List.zipIdx_cons, List.foldl_cons]
        simp only [gt_iff_lt, Nat.zero_lt_succ, if_true]
        have := ih (k + 1) (out ++ sep ++ q)
        simp only [gt_iff_lt] at this
        rw [this]
        simp [natsOf]
    have jl : ∀ (r : List (Array UInt8)) (p : List Nat), joinL (natsOf sep) (p :: r.map natsOf) = p ++ (r.map fun q => natsOf sep ++ natsOf q).flatten := by
      intro r
      induction r with
      | nil => intro p; simp [joinL_e1]
      | cons q r ih => intro p; rw [List.map_cons, joinL_e2, ih]; simp
    unfold Bytes.joined
    rw [List.zipIdx_cons, List.foldl_cons, List.map_cons, jl]
    have := key r 0 (#[] ++ p)
    simp only [gt_iff_lt, Nat.lt_irrefl, if_false, Nat.zero_add] at this ⊢
    rw [this]
    simp

theorem meets_bjoin (sep : Array UInt8) (t : Tok) (a : Addr) (bs : List (Array UInt8 × Tok)) (n : Nat) (hz : bs.length ≤ 1000000) (hj : (joinL (natsOf sep) (bs.map fun p => natsOf p.1)).length ≤ 1000000) :
    Meets («bytes.join» ⟨[.bytes sep t, .ref a], []⟩) (fun _ R s => s.heap.get? a = some { cls := .type "list", data := .seq (bvals bs).toArray n } ∧ ∀ arr t' tk, natsOf arr = joinL (natsOf sep) (bs.map fun p => natsOf p.1) → R (.ok (.ret (.bytes arr t'))) { s with toks := tk }) := by
  refine .of_wp fun prog w A R s hS => ?_
  obtain ⟨ho, h⟩ := hS
  have hT : s.TypeIs (.ref a) "list" := ⟨_, ho, rfl⟩
  show wpAny _ _ (selfAndOne _ ⟨[.bytes sep t, .ref a], []⟩ >>= fun r => _) _ _ s
  refine wpAny_bind (wpAny_of_eq (a := (.bytes sep t, .ref a)) rfl ?_)
  dsimp only
  refine wpAny_bind ?_
  show wpAny _ _ (Bytes.joinItems (.ref a)) _ _ s
  unfold Bytes.joinItems
  refine wpAny_bind (wpAny_typeOf hT ?_)
  rw [if_pos (by decide +kernel)]
  refine wpAny_pure ?_
  refine wpAny_bind (wpAny_seqItems ho rfl ?_)
  dsimp only
  rw [if_pos (by decide)]
  have fin : ∀ parts : Array (Array UInt8), parts.toList = bs.map (·.1) → ¬ Bytes.tooLong (Array.foldl (fun x1 x2 => x1 + x2.size) (sep.size * (parts.size - 1)) parts) = true := by
    intro parts hp
    have e1 : parts = (bs.map (·.1)).toArray := by rw [← hp]
    have := joinL_len (natsOf sep) (bs.map fun p => natsOf p.1)
    rw [this] at hj
    rw [e1, fold_size]
    unfold Bytes.tooLong
    rw [sizeLine_eq]
    simp only [List.map_map, Function.comp_def, natsOf, List.length_map, Array.length_toList, List.size_toArray, decide_eq_true_eq] at hj ⊢
    omega
  obtain ⟨bs', hq⟩ : ∃ bs', bs = bs' := ⟨_, rfl⟩
  have e0 : (bvals bs).toArray = (bvals bs').toArray := by rw [hq]
  rw [e0]
  have hsz : (bvals bs').toArray.size = bs.length := by rw [← hq]; simp [bvals]
  have ho' : s.heap.get? a = some { cls := .type "list", data := .seq (bvals bs').toArray n } := by rw [← hq]; exact ho
  rcases bs' with _ | ⟨p, _ | ⟨q, r⟩⟩
  rotate_left
  · show wpAny _ _ (typeOf (.bytes p.1 p.2) >>= fun r => _) _ _ s
    refine wpAny_bind (wpAny_typeOf (typeIs_bytes s _ _) ?_)
    rw [if_pos (by decide +kernel)]
    exact wpAny_bind (wpAny_rule (wpAny_pure ⟨_, rfl, h p.1 p.2 s.toks (by rw [hq]; rfl)⟩))
  all_goals
    show wpAny _ _ (forIn (m := Sem) _ _ _ >>= fun r => _) _ _ s
    refine wpAny_bind (forIn_range_rule (fun i b => b.1.toList = (bs.take i).map (·.1) ∧ b.2 = (bs.take i).map fun p => (.bytes p.1 p.2, none)) ⟨by simp, by simp⟩ ?_ ?_)
    · intro i b hi hI Q' hQ'
      obtain ⟨parts, taken⟩ := b
      obtain ⟨e1, e2⟩ := hI
      dsimp only at e1 e2
      subst e2
      rw [hsz] at hi
      refine wpAny_bind (wpAny_seqItems ho' rfl ?_)
      dsimp only
      have hany : ((bs.take i).map fun p => ((Value.bytes p.1 p.2, (none : Option Value)))).any (fun x => x.1.onHeap) = false := by
        rw [List.any_map]; exact List.any_eq_false.mpr (by intro _ _; simp [Value.onHeap])
      rw [if_neg (by rw [hany]; decide)]
      rw [← e0]
      have eg : (bvals bs).toArray.getD i Value.none = .bytes bs[i].1 bs[i].2 := by simp [bvals, hi]
      rw [eg]
      refine wpAny_bind (wpAny_holding (wpAny_of_eq take_eq ?_))
      dsimp only
      refine wpAny_bind (wpAny_seqItems ho rfl ?_)
      dsimp only
      rw [if_neg (by simp)]
      refine wpAny_pure (hQ' _ ⟨?_, ?_⟩)
      · rw [Array.toList_push, e1, List.take_add_one, List.getElem?_eq_getElem hi, List.map_append]; rfl
      · dsimp only
        rw [List.take_add_one, List.getElem?_eq_getElem hi, List.map_append]; rfl
    · intro b hb
      obtain ⟨parts, taken⟩ := b
      obtain ⟨e1, e2⟩ := hb
      dsimp only at e1 e2
      rw [hsz, List.take_length] at e1 e2
      subst e2
      refine wpAny_bind (wpAny_of_eq payload_eq ?_)
      dsimp only
      rw [if_neg (fin parts e1)]
      have en : natsOf (Bytes.joined sep parts.toList) = joinL (natsOf sep) (bs.map fun p => natsOf p.1) := by
        rw [joined_eq, e1, List.map_map]; rfl
      refine wpAny_bind (wpAny_mkBytes ?_ (by have := congrArg List.length en; rw [sizeLine_eq]; simp [natsOf] at this hj; omega))
      refine wpAny_bind (wpAny_holding (wpAny_point ?_))
      refine wpAny_bind (joinLetGo_rule bs ?_)
      exact wpAny_pure ⟨_, rfl, h _ _ _ en⟩

end

-- L10
section
open PySem.Builtin

theorem find_char (x : List Nat) (c : Nat) : Txt.find ⟨x.toArray⟩ ⟨#[c]⟩ = if c ∈ x then (x.idxOf c : Int) else -1 := by
  have at_iff : ∀ i, StrLaws.At ⟨x.toArray⟩ ⟨#[c]⟩ x.length i ↔ x[i]? = some c := by
    intro i
    unfold StrLaws.At
    rw [StrLaws.subAt_eq]
    show i + 1 ≤ x.length ∧ (((x.drop i).take 1 == [c]) = true) ↔ _
    constructor
    · rintro ⟨h1, h2⟩
      have h2 := beq_iff_eq.mp h2
      have := congrArg (fun l => l[0]?) h2
      simpa [List.getElem?_take, List.getElem?_drop] using this
    · intro h
      obtain ⟨lt, e⟩ := List.getElem?_eq_some_iff.mp h
      refine ⟨lt, beq_iff_eq.mpr ?_⟩
      rw [List.drop_eq_getElem_cons lt, e]; rfl
  have hl : (⟨x.toArray⟩ : Str).length = x.length := by simp [Str.length]
  rcases find_whole ⟨x.toArray⟩ ⟨#[c]⟩ with ⟨e, n⟩ | ⟨i, e, h, n⟩
  · rw [e, if_neg]
    intro hc
    rw [hl] at n
    exact n _ ((at_iff _).mpr (by rw [List.getElem?_eq_getElem (List.idxOf_lt_length_iff.mpr hc), List.getElem_idxOf]))
  · rw [hl] at h n
    have hi := (at_iff i).mp h
    have hc : c ∈ x := List.mem_of_getElem? hi
    rw [e, if_pos hc]
    have lt := List.idxOf_lt_length_iff.mpr hc
    congr 1
    rcases Nat.lt_trichotomy i (x.idxOf c) with q | q | q
    · have := List.not_of_lt_findIdx (p := fun y => y == c) (xs := x) q
      obtain ⟨lt', e'⟩ := List.getElem?_eq_some_iff.mp hi
      rw [e'] at this; simp at this
    · exact q
    · exact absurd ((at_iff _).mpr (by rw [List.getElem?_eq_getElem lt, List.getElem_idxOf])) (n _ q)

theorem joinStr_eq (sep : List Nat) : ∀ (ps : List (List Nat)), Txt.join ⟨sep.toArray⟩ (ps.map fun p => ⟨p.toArray⟩) = ⟨(joinL sep ps).toArray⟩ := by
  intro ps
  show Str.glued _ _ = _
  rw [StrLaws.glued_eq_join]
  induction ps with
  | nil => rfl
  | cons p r ih =>
    cases r with
    | nil => rfl
    | cons q r =>
      show (⟨p.toArray⟩ : PySem.Str) ++ ⟨sep.toArray⟩ ++ Str.join ⟨sep.toArray⟩ ((q :: r).map fun p => ⟨p.toArray⟩) = _
      rw [ih]
      show (⟨p.toArray ++ sep.toArray ++ _⟩ : PySem.Str) = _
      simp [joinL]

section
variable {prog : Program} {w : World} {B : Heap} {A : Around} {E : Value → Shared → Prop} {s : Shared} {H : AHeap} {K : Frag} {mg mb : PySem.Str → Option Value}
theorem Hand.wrote {k : PV → AHeap → Prop} {Q : Value → Shared → Prop} (P : Hand prog w B NoX s H k Q) (W : WF prog w B H s.heap) {a : Addr} {o ao : AObj} {h' : Heap} {t : Nat} (e : H a = some o) (S : Heap.ExtBut a s.heap h')
    (r : KeepImm s.heap h' → RepO prog w B h' a ao) (h : k .none (H.set a ao)) : Q .none { s with heap := h', toks := t } :=
  P .none _ _ _ ⟨rfl, rfl, rfl⟩ (.write e S) (W.write e S r) (V_none.mpr rfl) h
theorem VL.strsR {h : Heap} : ∀ {ps : List PV} {vs : List Value} {ns : List (List Nat)}, VL B h ps vs → strsOf ps = some ns → StrsAre vs (ns.map fun p => ⟨p.toArray⟩)
  | [], _, _, x, e => by rw [VL_nil] at x; subst x; cases e; exact .nil
  | p :: ps, _, _, x, e => by
    obtain ⟨v, r, rfl, a, b⟩ := VL_cons.mp x
    cases p <;> try cases e
    unfold strsOf at e
    cases q : strsOf ps with
    | none => rw [q] at e; cases e
    | some ns =>
      rw [q] at e; cases e
      obtain ⟨t, rfl⟩ := V_str.mp a
      exact .cons _ _ (VL.strsR b q)

theorem insert_ok {a : Addr} {vs : List Value} {n : Nat} {i : Int} {t : Tok} {v : Value} {Q : Value → Shared → Prop} (ho : s.heap.get? a = some { cls := .type "list", data := .seq vs.toArray n }) (hz : vs.length ≤ 16777216) (h0 : 0 ≤ i) (h1 : i ≤ vs.length)
    (hQ : ∀ h' n', h'.get? a = some { cls := .type "list", data := .seq (vs.take i.toNat ++ v :: vs.drop i.toNat).toArray n' } → Heap.SameBut a s.heap h' → Q .none { s with heap := h' }) : wpAny (model prog w) A (call (.builtin "list.insert") [.ref a, .int i t, v]) Q E s := by
  have hf : Builtin.List.listFitsIndex i = true := by unfold Builtin.List.listFitsIndex; simp only [Bool.and_eq_true, decide_eq_true_eq]; omega
  refine call_meets PySem.F.slot_list_insert ⟨_, ho, rfl⟩ PySem.F.entry_list_insert (PySem.F.args_list_insert_3 _ _ _) (PySem.AutoSeq1.list_insert_list_int_val_1 a vs.toArray n i t v (by simp [hf]) (by rw [List.size_toArray, sizeLine_eq]; exact hz)) ⟨ho, ?_⟩
  have e : (have k := if i < 0 then (i + (vs.toArray.size : Int)).toNat else min i.toNat vs.toArray.size; (vs.toArray.extract 0 k).push v ++ vs.toArray.extract k) = (vs.take i.toNat ++ v :: vs.drop i.toNat).toArray := by
    rw [if_neg (by omega)]
    have : min i.toNat vs.toArray.size = i.toNat := by simp; omega
    rw [this]
    apply Array.toList_inj.mp
    simp
    exact List.take_of_length_le (by simp)
  have e2 : ∃ n', Obj.mapSeq (fun xs => have k := if i < 0 then (i + (xs.size : Int)).toNat else min i.toNat xs.size; (xs.extract 0 k).push v ++ xs.extract k) { cls := .type "list", data := .seq vs.toArray n } = { cls := .type "list", data := .seq (vs.take i.toNat ++ v :: vs.drop i.toNat).toArray n' } := by
    rw [← e]; exact ⟨_, rfl⟩
  obtain ⟨n', e2⟩ := e2
  refine hQ _ n' ?_ (Heap.SameBut.update ..)
  rw [Heap.get?_update_self _ ho (by rw [e2]; rfl), e2]

theorem VL1 {h : Heap} {p : PV} {vs : List Value} (hv : VL B h [p] vs) : ∃ v, vs = [v] ∧ V B h p v := by
  obtain ⟨v, r, rfl, a, b⟩ := VL_cons.mp hv
  cases VL_nil.mp b
  exact ⟨v, rfl, a⟩
theorem VL2 {h : Heap} {p q : PV} {vs : List Value} (hv : VL B h [p, q] vs) : ∃ u v, vs = [u, v] ∧ V B h p u ∧ V B h q v := by
  obtain ⟨u, r, rfl, a, b⟩ := VL_cons.mp hv
  obtain ⟨v, rfl, c⟩ := VL1 b
  exact ⟨u, v, rfl, a, c⟩
theorem VL3 {h : Heap} {p q r : PV} {vs : List Value} (hv : VL B h [p, q, r] vs) : ∃ u v w, vs = [u, v, w] ∧ V B h p u ∧ V B h q v ∧ V B h r w := by
  obtain ⟨u, r, rfl, a, b⟩ := VL_cons.mp hv
  obtain ⟨v, w, rfl, c, d⟩ := VL2 b
  exact ⟨u, v, w, rfl, a, c, d⟩
theorem bi_ok {l : Nat} {id : String} {args : List PV} {vs : List Value} {k : PV → AHeap → Prop} {Q : Value → Shared → Prop} (G : GH K B mg mb) (hA : AOk l A) (hl : l ≤ 60) (W : WF prog w B H s.heap) (hv : VL B s.heap args vs)
    (P : Hand prog w B NoX s H k Q) (h : BiW H k id args) : wpAny (model prog w) A (call (.builtin id) vs) Q E s := by
  have sysn := G.sysn W
  cases h with
  | lenb c h =>
    obtain ⟨v, rfl, a⟩ := VL1 hv
    obtain ⟨arr, t, rfl, e⟩ := V_bytes.mp a
    have sz := size_of_map e
    refine len_bytes (by rw [sz]; omega) ?_
    rw [sz]
    exact P.same W (V_int.mpr ⟨_, rfl⟩) h
  | @lens x c h =>
    obtain ⟨v, rfl, a⟩ := VL1 hv
    obtain ⟨t, rfl⟩ := V_str.mp a
    have sz : (⟨x.toArray⟩ : PySem.Str).length = x.length := rfl
    refine len_str (by rw [sz]; omega) ?_
    rw [sz]
    exact P.same W (V_int.mpr ⟨_, rfl⟩) h
  | @lenl a x e c h =>
    obtain ⟨v, rfl, a'⟩ := VL1 hv
    cases V_ref.mp a'
    obtain ⟨us, hl, hu⟩ := (W.rep _ _ e).isList
    have sz : us.toArray.size = x.length := hu.length
    refine call_len_list hl (by rw [sz]; omega) ?_
    rw [sz]
    exact P.same W (V_int.mpr ⟨_, rfl⟩) h
  | ord h =>
    obtain ⟨v, rfl, a⟩ := VL1 hv
    obtain ⟨t, rfl⟩ := V_str.mp a
    exact PySem.P.ord_of_char (P.same W (V_int.mpr ⟨_, rfl⟩) h)
  | chr c h =>
    obtain ⟨v, rfl, a⟩ := VL1 hv
    obtain ⟨t, rfl⟩ := V_int.mp a
    exact chr_of_range c.1 (Int.le_of_lt_add_one c.2) (P.same W (V_str.mpr ⟨_, rfl⟩) h)
  | @abs i h =>
    obtain ⟨v, rfl, a⟩ := VL1 hv
    obtain ⟨t, rfl⟩ := V_int.mp a
    refine PyProof.Rows.call_abs_int fun u tk => ?_
    have : (if i < 0 then -i else i) = (i.natAbs : Int) := by split <;> omega
    rw [this]
    exact P.same W (V_int.mpr ⟨_, rfl⟩) h
  | @min x y h =>
    obtain ⟨v, v', rfl, a, a'⟩ := VL2 hv
    obtain ⟨t, rfl⟩ := V_int.mp a
    obtain ⟨t', rfl⟩ := V_int.mp a'
    refine min_two_ints hA.handled fun h' tk g => ?_
    by_cases c : y < x
    · rw [if_pos c]
      rw [Int.min_eq_right (Int.le_of_lt c)] at h
      exact P.grown W g (V_int.mpr ⟨_, rfl⟩) h
    · rw [if_neg c]
      rw [Int.min_eq_left (Int.not_lt.mp c)] at h
      exact P.grown W g (V_int.mpr ⟨_, rfl⟩) h
  | @append a x p e c h =>
    obtain ⟨v, v', rfl, a1, a2⟩ := VL2 hv
    cases V_ref.mp a1
    obtain ⟨us, n, ho, hu⟩ := W.rep _ _ e
    refine wpAny_list_append_plain ⟨n, ho⟩ (fun h' pl S => ?_) (by rw [sizeLine_eq]; show us.length ≤ _; rw [hu.length]; exact c)
    obtain ⟨n', e'⟩ := pl
    refine P.wrote W e S.extBut (fun ki => ?_) h
    refine ⟨us ++ [v'], n', ?_, (hu.mono ki).append (VL_cons.mpr ⟨_, _, rfl, a2.mono ki, VL_nil.mpr rfl⟩)⟩
    rw [e', List.push_toArray]
  | insert e c h =>
    obtain ⟨v, v', v'', rfl, a1, a2, a3⟩ := VL3 hv
    cases V_ref.mp a1
    obtain ⟨t, rfl⟩ := V_int.mp a2
    obtain ⟨us, n, ho, hu⟩ := W.rep _ _ e
    have hn := hu.length
    refine insert_ok ho (by omega) c.2.1 (by omega) fun h' n' e' S => ?_
    refine P.wrote W e S.extBut (fun ki => ?_) h
    exact ⟨_, n', e', ((hu.mono ki).take _).append (VL_cons.mpr ⟨_, _, rfl, a3.mono ki, (hu.mono ki).drop _⟩)⟩
  | @sjoin sep a x ps e eq c h =>
    obtain ⟨v, v', rfl, a1, a2⟩ := VL2 hv
    obtain ⟨t, rfl⟩ := V_str.mp a1
    cases V_ref.mp a2
    obtain ⟨us, hl, hu⟩ := (W.rep _ _ e).isList
    obtain ⟨h1, h2, h3⟩ := c
    have sa := hu.strsR eq
    have ln : ps.length = x.length := by have := sa.length; rw [List.length_map] at this; exact this.symm.trans hu.length
    refine join_list hl sa ?_ fun t' k => ?_
    · have := joinL_len sep ps
      have e1 : ((ps.map fun p => (⟨p.toArray⟩ : PySem.Str)).map (·.length)).sum = (ps.map (·.length)).sum := by rw [List.map_map]; rfl
      have e2 : (⟨sep.toArray⟩ : PySem.Str).length = sep.length := rfl
      rw [e1, e2, List.length_map]
      have : ps.length * sep.length ≤ sep.length * (ps.length - 1) + sep.length := by
        rw [Nat.mul_comm]
        cases ps.length with
        | zero => exact Nat.zero_le _
        | succ m => rw [Nat.mul_succ]; exact Nat.le_refl _
      omega
    · rw [joinStr_eq]
      exact P.same W (V_str.mpr ⟨_, rfl⟩) h
  | bjoin e eq c h =>
    obtain ⟨v, v', rfl, a1, a2⟩ := VL2 hv
    obtain ⟨arr, t, rfl, ea⟩ := V_bytes.mp a1
    cases V_ref.mp a2
    obtain ⟨us, n, ho, hu⟩ := W.rep _ _ e
    obtain ⟨bs, rfl, eb⟩ := hu.bytes eq
    obtain ⟨h1, h2⟩ := c
    have hn := hu.length
    have e1 : natsOf arr = _ := ea
    refine call_meets slot_bjoin (typeIs_bytes s _ _) entry_bjoin (args_bjoin _ _) (meets_bjoin arr t _ bs n (by simp [bvals] at hn; omega) (by rw [eb, e1]; exact h1)) ⟨ho, fun arr' t' tk en => ?_⟩
    exact P.same W (V_bytes.mpr ⟨arr', t', rfl, by rw [eb, e1] at en; exact en⟩) h
  | split z h =>
    obtain ⟨v, v', v'', rfl, a1, a2, a3⟩ := VL3 hv
    obtain ⟨arr, t, rfl, ea⟩ := V_bytes.mp a1
    obtain ⟨arr2, t2, rfl, ea2⟩ := V_bytes.mp a2
    obtain ⟨t3, rfl⟩ := V_int.mp a3
    obtain ⟨h1, h2, h3⟩ := z
    obtain ⟨cu, rfl, ec⟩ : ∃ cu : UInt8, arr2 = #[cu] ∧ cu.toNat = _ := by
      obtain ⟨la⟩ := arr2
      match la, ea2 with
      | [cu], e => exact ⟨cu, rfl, (List.cons.inj e).1⟩
    have fresh := get?_new s.heap
    refine call_meets slot_bsplit (typeIs_bytes s _ _) entry_bsplit (args_bsplit _ _ _) (meets_split arr cu t t2 t3 ea h2 h3 h1) fun us tk hb => ?_
    have nH := W.fresh fresh
    rw [ec] at hb
    refine P (.ref s.heap.objs.size) _ _ _ ⟨rfl, rfl, rfl⟩ ((Step.push _ _ _ _).alloc fresh) ?_ (V_ref.mpr rfl) (h _ nH)
    exact (W.push _).alloc nH (W.freshB fresh) ⟨_, _, push_new _, hb _ _⟩
  | @find x c z h =>
    obtain ⟨v, v', rfl, a1, a2⟩ := VL2 hv
    obtain ⟨t, rfl⟩ := V_str.mp a1
    obtain ⟨t', rfl⟩ := V_str.mp a2
    refine SC.find ?_
    rw [show (⟨[c].toArray⟩ : PySem.Str) = ⟨#[c]⟩ from rfl, find_char]
    exact P.same W (V_int.mpr ⟨_, rfl⟩) h
  | index z h =>
    obtain ⟨v, v', rfl, a1, a2⟩ := VL2 hv
    obtain ⟨arr, t, rfl, ea⟩ := V_bytes.mp a1
    obtain ⟨t', rfl⟩ := V_int.mp a2
    exact call_gives slot_bindex (typeIs_bytes s _ _) entry_bindex (args_bindex _ _) (gives_index arr t t' ea z.2.1 z.2.2.1 z.2.2.2) (P.same W (V_int.mpr ⟨_, rfl⟩) h)
  | @gets a kvs n x d e h =>
    obtain ⟨v, v', v'', rfl, a1, a2, a3⟩ := VL3 hv
    cases V_ref.mp a1
    obtain ⟨t, rfl⟩ := V_str.mp a2
    obtain ⟨kv, d, r⟩ := sd_get (W.rep _ _ e) x
    refine call_meetsIn PySem.F.slot_dict_get d.dictOf.typeIs PySem.F.entry_dict_get (PySem.F.args_dict_get_3 _ _ _) (meets_dict_get_default (strKind prog w) a (strKind_is prog w _ t) (sysn a (by rw [e]; exact Option.some_ne_none _)) v'') ⟨_, d.dictOf.mapOf, ?_⟩
    rcases r with ⟨p', u, e1, e2, e3⟩ | ⟨e1, e2⟩
    · rw [e1] at h; rw [e2]
      exact P.same W e3 h
    · rw [e1] at h; rw [e2]
      exact P.same W a3 h
  | @geti a kvs x d e h =>
    obtain ⟨v, v', v'', rfl, a1, a2, a3⟩ := VL3 hv
    cases V_ref.mp a1
    obtain ⟨t, rfl⟩ := V_int.mp a2
    obtain ⟨kv, d, r⟩ := id_get (W.rep _ _ e) x
    refine call_meetsIn PySem.F.slot_dict_get d.typeIs PySem.F.entry_dict_get (PySem.F.args_dict_get_3 _ _ _) (meets_dict_get_default (intKind prog w) a (show (intKind prog w).is x (.int x t) = true from isInt_self _ t) (sysn a (by rw [e]; exact Option.some_ne_none _)) v'') ⟨_, d.mapOf, ?_⟩
    rcases r with ⟨p', u, e1, e2, e3⟩ | ⟨e1, e2⟩
    · rw [e1] at h; rw [e2]
      exact P.same W e3 h
    · rw [e1] at h; rw [e2]
      exact P.same W a3 h

theorem ty_ok {l : Nat} {id : String} {args : List PV} {vs : List Value} {k : PV → AHeap → Prop} {Q : Value → Shared → Prop} (G : GH K B mg mb) (hA : AOk l A) (hl : l ≤ 60) (W : WF prog w B H s.heap) (hv : VL B s.heap args vs)
    (P : Hand prog w B NoX s H k Q) (h : TyW H k id args) : wpAny (model prog w) A (call (.type id) vs) Q E s := by
  cases h with
  | bytes e eq c h =>
    obtain ⟨v, rfl, a1⟩ := VL1 hv
    cases V_ref.mp a1
    obtain ⟨us, hl, hu⟩ := (W.rep _ _ e).isList
    have hn := hu.length
    refine call_bytes_ints hl (hu.ints eq) c.2 (by rw [sizeLine_eq]; omega) hA.handled fun h' t k g => ?_
    refine P.grown W g (V_bytes.mpr ⟨_, _, rfl, ?_⟩) h
    unfold byteArr
    rw [show ((List.map (fun n : Int => n.toNat.toUInt8) _).toArray).toList = List.map (fun n : Int => n.toNat.toUInt8) _ from rfl, List.map_map]
    refine List.map_congr_left fun n hn => ?_
    have := c.2 n hn
    show (n.toNat.toUInt8).toNat = n.toNat
    rw [Nat.toUInt8, UInt8.toNat_ofNat']; omega
  | int h =>
    obtain ⟨v, rfl, a⟩ := VL1 hv
    obtain ⟨t, rfl⟩ := V_int.mp a
    exact call_int_int (P.here W (V_int.mpr ⟨_, rfl⟩) h)
  | range1 h =>
    obtain ⟨v, rfl, a⟩ := VL1 hv
    obtain ⟨t, rfl⟩ := V_int.mp a
    exact call_range_1 (P.grown W (fun b o e => Heap.get?_push_of_some _ e) (V_rng.mpr ⟨_, _, _, _, rfl, IsRange.new _ _ _ _ _ _ _⟩) h)
  | range2 h =>
    obtain ⟨v, v', rfl, a, a'⟩ := VL2 hv
    obtain ⟨t, rfl⟩ := V_int.mp a
    obtain ⟨t', rfl⟩ := V_int.mp a'
    exact call_range_2 (P.grown W (fun b o e => Heap.get?_push_of_some _ e) (V_rng.mpr ⟨_, _, _, _, rfl, IsRange.new _ _ _ _ _ _ _⟩) h)
end

end

-- L11

section
variable {prog : Program} {w : World} {B : Heap} {A : Around} {E : Value → Shared → Prop} {s : Shared} {H : AHeap} {K : Frag} {mg mb : Str → Option Value}

/-- two pairs are alike when their parts are -/
theorem eq_pair {a b : Addr} {x1 x2 y1 y2 : Value} {Q : Value → Shared → Prop} (ha : IsTup s.heap a #[x1, x2]) (hb : IsTup s.heap b #[y1, y2]) (hu : A.units < cLine)
    (h1 : ∀ (A' : Around) (E : Value → Shared → Prop) (Q : Bool → Shared → Prop), A' = A.in1 → Q true s → wpAny (model prog w) A' (eqBool x1 y1) Q E s) (h2 : ∀ (A' : Around) (E : Value → Shared → Prop) (Q : Bool → Shared → Prop), A' = A.in1 → Q true s → wpAny (model prog w) A' (eqBool x2 y2) Q E s)
    (h : Q (.bool true) s) : wpAny (model prog w) A (compareOp .Eq (.ref a) (.ref b)) Q E s := by
  obtain ⟨oa, hoa, ca, na, da⟩ := id ha
  obtain ⟨ob, hob, cb, nb, db⟩ := id hb
  refine wpAny_richCompare_same_room (op := .Eq) ha.typeIs hb.typeIs PySem.F.slot_tuple_eq (wpAny_call_entry PySem.F.slot_tuple_eq ha.typeIs PySem.F.entry_tuple_eq ?_ (PySem.F.args_tuple_eq_2 _ _)) hu
  show wpAny _ _ (slotArgs "__eq__" 1 ⟨[.ref a, .ref b], []⟩ >>= fun r => _) _ _ s
  refine wpAny_bind (wpAny_of_eq (a := (.ref a, [.ref b])) rfl ?_)
  refine wpAny_bind (wpAny_isInstance (T := "tuple") hb.typeIs AutoSeq1.sub_tuple_tuple ?_)
  simp only [Bool.not_true, Bool.false_eq_true, if_false]
  unfold Builtin.Tuple.tupleItemsOf
  refine wpAny_bind (wpAny_bind (wpAny_seqItems hoa da (wpAny_pure ?_)))
  refine wpAny_bind (wpAny_bind (wpAny_seqItems hob db (wpAny_pure ?_)))
  rw [show (#[x1, x2] : Array Value).toList.zip (#[y1, y2] : Array Value).toList = [(x1, y1), (x2, y2)] from rfl, List.forIn_cons]
  refine wpAny_bind (wpAny_bind (wpAny_bind (h1 _ _ _ rfl ?_)))
  rw [if_neg (by decide)]
  refine wpAny_pure ?_
  dsimp only
  rw [List.forIn_cons]
  refine wpAny_bind (wpAny_bind (h2 _ _ _ rfl ?_))
  rw [if_neg (by decide)]
  refine wpAny_pure ?_
  dsimp only
  rw [List.forIn_nil]
  refine wpAny_pure ?_
  exact wpAny_pure ⟨_, rfl, (fun z => nomatch z), h⟩
theorem valueAt_mem {kb : List (Str × Value)} (nd : (kb.map (·.1)).Nodup) {q : Str × Value} (h : q ∈ kb) : valueAt kb q.1 = some q.2 := by
  induction kb with
  | nil => cases h
  | cons p r ih =>
    rw [List.map_cons, List.nodup_cons] at nd
    unfold valueAt
    rw [List.find?_cons]
    rcases List.mem_cons.mp h with rfl | h
    · simp
    · have ne : ¬ p.1 = q.1 := fun z => nd.1 (z ▸ List.mem_map_of_mem h)
      rw [decide_eq_false ne]
      exact ih nd.2 h
theorem hits_aux {A : Around} {h : Heap} {kb : List (Str × Value)} : ∀ (ps : List PV) (ka' kb' : List (Str × Value)), ka'.map (·.1) = kb'.map (·.1) → VL B h ps (ka'.map (·.2)) → VL B h ps (kb'.map (·.2)) → (∀ r ∈ ps, ∃ t, r = .str t) →
    (∀ q ∈ kb', valueAt kb q.1 = some q.2) → KeqHits A s kb ka' true
  | _, [], _, _, _, _, _, _ => .nil
  | _, _ :: _, [], e, _, _, _, _ => by cases e
  | ps, (k, v) :: ka, (k', v') :: kb', e, a, b, hs, hq => by
    simp only [List.map_cons, List.cons.injEq] at e
    obtain ⟨rfl, e⟩ := e
    cases ps with
    | nil => rw [VL_nil] at a; cases a
    | cons p ps =>
      obtain ⟨u, r, z, a1, a2⟩ := VL_cons.mp a
      obtain ⟨u', r', z', b1, b2⟩ := VL_cons.mp b
      simp only [List.map_cons, List.cons.injEq] at z z'
      obtain ⟨rfl, rfl⟩ := z
      obtain ⟨rfl, rfl⟩ := z'
      obtain ⟨t, rfl⟩ := hs p (List.mem_cons_self ..)
      obtain ⟨t1, rfl⟩ := V_str.mp a1
      obtain ⟨t2, rfl⟩ := V_str.mp b1
      have := KeqHits.hit (hq _ (List.mem_cons_self ..)) (SeqAt.EqAt.str_str (A := A) (s := s) ⟨t.toArray⟩ t1 ⟨t.toArray⟩ t2) (hits_aux ps ka kb' e a2 b2 (fun r hr => hs r (List.mem_cons_of_mem _ hr)) fun q hm => hq q (List.mem_cons_of_mem _ hm))
      simpa using this
theorem p_eqres (G : GH K B mg mb) {k : PV → AHeap → Prop} {a : List Nat} {x y : Addr} {kvs : List (List Nat × PV)} {e1 e2 : Nat} (hx : H x = some (.sdict kvs e1)) (hy : H y = some (.sdict kvs e2)) (hs : ∀ r ∈ kvs, ∃ t, r.2 = .str t) (h : k (.bool true) H) : cmpH prog w B .Eq (.tup [.str a, .ref x]) (.tup [.str a, .ref y]) H k := by
  show CmpS prog w B .Eq _ _ H k
  intro A s E Q u v hA hU W hu hv P
  have sysn := G.sysn W
  obtain ⟨ca, va, rfl, ta, la⟩ := V_tup.mp hu
  obtain ⟨cb, vb, rfl, tb, lb⟩ := V_tup.mp hv
  obtain ⟨v1, r1, rfl, a1, a2⟩ := VL_cons.mp la
  obtain ⟨v2, r2, rfl, a3, a4⟩ := VL_cons.mp a2
  cases VL_nil.mp a4
  obtain ⟨u1, s1, rfl, b1, b2⟩ := VL_cons.mp lb
  obtain ⟨u2, s2, rfl, b3, b4⟩ := VL_cons.mp b2
  cases VL_nil.mp b4
  obtain ⟨t1, rfl⟩ := V_str.mp a1
  obtain ⟨t2, rfl⟩ := V_str.mp b1
  cases V_ref.mp a3
  cases V_ref.mp b3
  have hu' : A.units + 100 < cLine := by have : cLine = 9900 := rfl
                                         omega
  refine eq_pair ta tb (by omega) (fun A' E Q e hq => ?_) (fun A' E Q e hq => ?_) (P.here W (V_bool.mpr rfl) h)
  · refine SeqAt.EqAt.str_str _ _ _ _ prog w E Q ?_
    simpa using hq
  · by_cases c : x = y
    · subst c
      exact SeqAt.EqAt.same _ prog w E Q hq
    · unfold eqBool
      refine wpAny_holding ?_
      refine wpAny_ite_split (fun hab => absurd (by have := eq_of_beq hab; injection this) c) (fun _ => ?_)
      obtain ⟨ka, da, ka1, ka2⟩ := W.rep _ _ hx
      obtain ⟨kb, db, kb1, kb2⟩ := W.rep _ _ hy
      have ek : ka.map (·.1) = kb.map (·.1) := by
        have : ka.map (fun p => p.1.cps.toList) = kb.map (fun p => p.1.cps.toList) := ka1.trans kb1.symm
        have inj : ∀ (l l' : List (Str × Value)), l.map (fun p => p.1.cps.toList) = l'.map (fun p => p.1.cps.toList) → l.map (·.1) = l'.map (·.1) := by
          intro l
          induction l with
          | nil => intro l' e; cases l' with | nil => rfl | cons _ _ => cases e
          | cons p r ih => intro l' e; cases l' with
            | nil => cases e
            | cons p' r' =>
              simp only [List.map_cons, List.cons.injEq] at e ⊢
              exact ⟨str_inj _ _ e.1, ih _ e.2⟩
        exact inj _ _ this
      have nd : (kb.map (·.1)).Nodup := by obtain ⟨_, _, _, _, _, _, _, nd⟩ := db; exact nd
      have len : ka.length = kb.length := by have := congrArg List.length ek; simpa using this
      refine wpAny_bind (keq_eq (knd := strKind prog w) (r := true) (sysn x (by rw [hx]; simp)) (sysn y (by rw [hy]; simp)) da.dictOf db.dictOf ?_ (fun _ => ?_) (wpAny_truthy_bool ?_))
      · subst e; show A.units + 1 < _; omega
      · exact hits_aux _ _ _ ek ka2 kb2 (fun r hr => by obtain ⟨q, hq, rfl⟩ := List.mem_map.mp hr; exact hs q hq) fun q hq => valueAt_mem nd hq
      · simpa [len] using hq
theorem p_nelist {k : PV → AHeap → Prop} {x y : Addr} {ns : List Int} (hx : H x = some (.list (ns.map .int))) (hy : H y = some (.list [])) (h : k (.bool (ns.length != 0)) H) : cmpH prog w B .NotEq (.ref x) (.ref y) H k := by
  show CmpS prog w B .NotEq _ _ H k
  intro A s E Q u v hA hU W hu hv P
  cases V_ref.mp hu
  cases V_ref.mp hv
  obtain ⟨vs, hl, hvl⟩ := (W.rep _ _ hx).isList
  obtain ⟨us, hm, hul⟩ := (W.rep _ _ hy).isList
  cases VL_nil.mp hul
  have hu' : A.units < cLine := by have : cLine = 9900 := rfl
                                   omega
  have hn := hvl.length
  cases ns with
  | nil =>
    have : vs = [] := by simpa using hn
    subst this
    exact SeqAt.RcNeAt.lists (e := fun _ => true) hl hm rfl hu' (fun j h1 _ => absurd h1 (by simp)) prog w E Q (P.here W (V_bool.mpr rfl) h)
  | cons n ns =>
    refine SeqAt.RcNeAt.lists_lengths hl hm ?_ hu' prog w E Q (P.here W (V_bool.mpr rfl) ?_)
    · simp at hn ⊢
      intro z; rw [z] at hn; cases hn
    · simpa using h
end

-- M5

structure Cx (K : Frag) (B : Heap) (mg mb : Str → Option Value) (gl : Str → Option PV) : Prop where
  G : GH K B mg mb
  C : CurOk K
  gl : ∀ x v, gl x = some v → (∃ u, mg x = some u ∧ V B B v u) ∨ (mg x = none ∧ x ≠ ("__name__" : Str) ∧ ∃ u, bootBuiltins x = some u ∧ V B B v u)

section
variable (prog : Program) (w : World) (B : Heap) (gl : Str → Option PV)
end

section
variable {prog : Program} {w : World} {B : Heap} {gl : Str → Option PV} {A : Around} {E : Value → Shared → Prop} {s : Shared} {H : AHeap} {K : Frag} {mg mb : Str → Option Value} {sc : Scope} {env : Env} {m : Loc} {l : Nat}

theorem Hand.after {X : Addr → Prop} {k : PV → AHeap → Prop} {Q : Value → Shared → Prop} {H₁ : AHeap} {s₁ : Shared} (P : Hand prog w B X s H k Q) (sm : Same s s₁) (st : Step X H s.heap H₁ s₁.heap) : Hand prog w B X s₁ H₁ k Q :=
  fun pv v H' s' a b c d e => P pv v H' s' (sm.trans a) (st.trans b) c d e
theorem HandB.after {X : Addr → Prop} {k : Bool → AHeap → Prop} {Q : Bool → Shared → Prop} {H₁ : AHeap} {s₁ : Shared} (P : HandB prog w B X s H k Q) (sm : Same s s₁) (st : Step X H s.heap H₁ s₁.heap) : HandB prog w B X s₁ H₁ k Q :=
  fun c H' s' a b d e => P c H' s' (sm.trans a) (st.trans b) d e
theorem AOk.hU (h : AOk l A) (hl : l ≤ 60) : A.units ≤ 9000 := by have := h.units; omega

/-- the frame stands behind a step that is none of its own -/
theorem Fm.step {H' : AHeap} {h h' : Heap} (F : Fm B env m H h) (W : WF prog w B H h) (S : Step NoX H h H' h') : Fm B env m H' h' := by
  have k : KeepImm h h' := S.imm W fun _ _ x => x.elim
  obtain ⟨mv, hn, hv⟩ := F.ns
  obtain ⟨o, es, ep, ho, r⟩ := id hn
  have cl : ∀ {c : Addr} {v : Option Value}, h.IsCell c v → h'.IsCell c v := fun {c v} x => by
    have n := W.noCell x
    obtain ⟨ob, e, d⟩ := x
    exact ⟨ob, (S.keep _ _ e n id).1, d⟩
  refine ⟨⟨mv, ⟨o, es, ep, (S.keep _ _ ho F.loc id).1, r⟩, fun x pv e q => ?_⟩, F.kinds, fun x pv e q => ?_, fun x q => ?_, F.inj, (S.keep _ _ ho F.loc id).2, F.high, F.chigh⟩
  · obtain ⟨v, a, b⟩ := hv x pv e q; exact ⟨v, a, b.mono k⟩
  · obtain ⟨c, v, a, b, d⟩ := F.cell x pv e q; exact ⟨c, v, a, cl b, d.mono k⟩
  · obtain ⟨c, v, a, b⟩ := F.cst x q; exact ⟨c, v, a, cl b⟩

theorem Cx.base (X : Cx K B mg mb gl) {h : Heap} {v : PV} {u : Value} (W : WF prog w B H h) (x : V B B v u) : V B h v u := x.mono fun a o e _ => W.base a o e

theorem const_ok {c : Const} {v : PV} {n : Nat} {pos : Pos} {k : PV → AHeap → Prop} {Q : Value → Shared → Prop} (W : WF prog w B H s.heap) (P : Hand prog w B NoX s H k Q) (e : constPV c = some v) (h : k v H) : wpAny (model prog w) A (eval (.Constant c n pos) env) Q E s := by
  cases c <;> cases e
  · exact wpAny_Constant_none (P.here W (V_none.mpr rfl) h)
  · exact wpAny_Constant_bool (P.here W (V_bool.mpr rfl) h)
  · exact wpAny_Constant_int (P.same W (V_int.mpr ⟨_, rfl⟩) h)
  · exact wpAny_Constant_str (P.same W (V_str.mpr ⟨_, rfl⟩) h)
  · exact PySem.W.Constant_bytes (P.same W (V_bytes.mpr ⟨_, _, rfl, rfl⟩) h)

theorem name_ok {x : Str} {pos : Pos} {k : PV → AHeap → Prop} {Q : Value → Shared → Prop} (X : Cx K B mg mb gl) (N : EnvOk sc env) (F : Fm B env m H s.heap) (W : WF prog w B H s.heap) (P : Hand prog w B NoX s H k Q)
    (hd : (x == ("__debug__" : Str)) = false) (h : nameW gl sc m x H k) : wpAny (model prog w) A (eval (.Name x pos) env) Q E s := by
  have hk : env.scope.kind = .function := by rw [N.scope]; exact N.kind
  unfold nameW at h
  cases g : isGlb sc x with
  | false =>
    rw [g] at h
    simp only [cond_false] at h
    split at h
    · rename_i v e
      rcases F.kinds x v e with q | q | ⟨q, q'⟩
      · obtain ⟨mv, hn, hv⟩ := F.ns
        obtain ⟨u, a, b⟩ := hv x v e q
        exact wpAny_Name (wpAny_loadName_local hk q hn a (P.here W b h)) hd
      · obtain ⟨c, u, a, b, d⟩ := F.cell x v e (by rw [q]; decide)
        exact wpAny_Name (wpAny_loadName_cell hk q a b (P.here W d h)) hd
      · obtain ⟨c, u, a, b, d⟩ := F.cell x v e (by rw [q]; decide)
        exact wpAny_Name (wpAny_loadName_free hk q a b (P.here W d h) (by simpa using q')) hd
    · exact h.elim
  | true =>
    rw [g] at h
    simp only [cond_true] at h
    have hx : env.kindOf x = some .globalImplicit := by unfold Env.kindOf; rw [N.scope]; simpa [isGlb] using g
    split at h
    · rename_i v e
      rcases X.gl x v e with ⟨u, a, b⟩ | ⟨a, a', u, b, c⟩
      · refine Name_function_global hk hx (loadGlobal_global (mg := mg) (by rw [N.globals]; exact X.G.g.keeps W.base) a (P.here W (X.base W b) h)) hd
      · refine Name_function_global hk hx (loadGlobal_builtin (mg := mg) (mb := mb) (by rw [N.globals]; exact X.G.g.keeps W.base) a (by rw [N.builtins]; exact X.G.b.keeps W.base) ((X.G.bi x a').trans b) (P.here W (X.base W c) h)) hd
    · exact h.elim

end

-- M5b

section
variable {prog : Program} {w : World} {B : Heap} {gl : Str → Option PV} {A : Around} {E : Value → Shared → Prop} {s : Shared} {H : AHeap} {K : Frag} {mg mb : Str → Option Value} {sc : Scope} {env : Env} {m : Loc} {l : Nat}

theorem notSet_marks {op : CmpOp} {e : Expr} (h : notSet e = true) : behindInMarks op e = false := by cases e <;> first | rfl | cases h
theorem lastMarks_no : ∀ {ops : List CmpOp} {bs : List Expr}, bs.all notSet = true → lastMarks ops bs = false
  | [], bs, _ => by simp [lastMarks]
  | _ :: _, [], _ => by simp [lastMarks]
  | [op], [e], h => by simpa [lastMarks] using notSet_marks (by simpa using h)
  | [op], e :: e' :: r, h => by
    have := lastMarks_no (ops := []) (bs := e' :: r) (by simp at h ⊢; exact h.2)
    simp [lastMarks]
  | op :: op' :: ops, [e], h => by simp [lastMarks]
  | op :: op' :: ops, e :: e' :: r, h => by
    have := lastMarks_no (ops := op' :: ops) (bs := e' :: r) (by simp at h ⊢; exact h.2)
    simpa [lastMarks] using this

/-! tests -/
theorem plain_tok {e : Expr} (ht : ∀ (whole : Sem Value), isTrue e env whole = (do let v ← whole; standAt e.pos; holding [v] (truthy v))) (hA : AOk l A) (W : WF prog w B H s.heap) {k : Bool → AHeap → Prop} {Q : Bool → Shared → Prop}
    (h : wpAny (model prog w) A (eval e env) (fun v s₁ => ∃ p H₁, Same s s₁ ∧ Step NoX H s.heap H₁ s₁.heap ∧ WF prog w B H₁ s₁.heap ∧ V B s₁.heap p v ∧ truthW p H₁ k) E s) (P : HandB prog w B NoX s H k Q) :
    wpAny (model prog w) A (isTrue e env (eval e env)) Q E s := by
  rw [ht]
  refine wpAny_bind (wpAny_mono h (fun v s₁ h₁ => ?_) fun _ _ x => x)
  obtain ⟨p, H₁, sm, st, W₁, hv, h₁⟩ := h₁
  exact wpAny_bind (wpAny_standAt (wpAny_holding (truth_ok W₁ hv (P.after sm st) h₁)))

/-- an expression whose test is its value's truth -/
noncomputable def plainTest : Expr → Bool
  | .UnaryOp .Not _ _ => false
  | .BoolOp .. => false
  | .IfExp .. => false
  | .Compare .. => false
  | _ => true
end

-- M5c

section
variable {prog : Program} {w : World} {B : Heap} {gl : Str → Option PV} {A : Around} {E : Value → Shared → Prop} {s : Shared} {H : AHeap} {K : Frag} {mg mb : Str → Option Value} {sc : Scope} {env : Env} {m : Loc} {l : Nat}

theorem starEach_plain {e : Expr} {r : List Expr} (h : notStar e = true) : starEach (e :: r) env = (false, eval e env) :: starEach r env := by
  cases e <;> first | rfl | cases h
theorem backTo_plain {pos : Pos} : ∀ {es : List Expr}, es.all notStar = true → (backTo pos (starEach es env)).any (·.1) = false
  | [], _ => rfl
  | e :: r, h => by
    simp only [List.all_cons, Bool.and_eq_true] at h
    rw [starEach_plain h.1]
    show (false || (backTo pos (starEach r env)).any (·.1)) = false
    rw [backTo_plain h.2]; rfl
theorem backTo_all {pos : Pos} : ∀ {es : List Expr}, es.all notStar = true → (backTo pos (starEach es env)).all (fun x => !x.1) = true
  | [], _ => rfl
  | e :: r, h => by
    simp only [List.all_cons, Bool.and_eq_true] at h
    rw [starEach_plain h.1]
    show (true && (backTo pos (starEach r env)).all (fun x => !x.1)) = true
    rw [backTo_all h.2]; rfl

theorem okArgs_iff {es : List Expr} (h : okArgs es = true) : es.length < 20 ∧ es.all notStar = true := by
  simp only [okArgs, Bool.and_eq_true, decide_eq_true_eq] at h; exact h

theorem Hand.new {k : PV → AHeap → Prop} {Q : Value → Shared → Prop} {o : AObj} {ob : Obj} (P : Hand prog w B NoX s H k Q) (W : WF prog w B H s.heap) (h : newW o H k)
    (r : RepO prog w B (s.heap.push ob) s.heap.objs.size o) : Q (.ref s.heap.objs.size) { s with heap := s.heap.push ob } :=
  P _ _ _ _ ⟨rfl, rfl, rfl⟩ ((Step.push _ _ _ _).alloc (get?_new _)) ((W.push _).alloc (W.fresh (get?_new _)) W.noNew r) (V_ref.mpr rfl) (h _ (W.fresh (get?_new _)))

theorem VL.push {h : Heap} {ps : List PV} {vs : List Value} (x : VL B h ps vs) (o : Obj) : VL B (h.push o) ps vs := x.mono fun a ob e _ => Heap.get?_push_of_some _ e
theorem V.push {h : Heap} {p : PV} {v : Value} (x : V B h p v) (o : Obj) : V B (h.push o) p v := x.mono fun a ob e _ => Heap.get?_push_of_some _ e

/-- what is called: the caller's look and the call -/
theorem callee_ok {f : PV} {fv : Value} {args : List PV} {k : PV → AHeap → Prop} {h : Heap} (hf : V B h f fv) (c : callW prog w B l f args H k) (W : ∀ b o, B.get? b = some o → h.get? b = some o) : Keep prog w B fv := by
  cases f with
  | ref a => cases V_ref.mp hf; exact c.1
  | bi id => cases V_bi.mp hf; exact fun h _ => ⟨.machine, .inr (.inl rfl), Looks.of_pure rfl⟩
  | ty id => cases V_ty.mp hf; exact fun h _ => ⟨.machine, .inr (.inl rfl), Looks.of_pure rfl⟩
  | _ => exact c.elim
theorem call_ok {f : PV} {fv : Value} {args : List PV} {vs : List Value} {k : PV → AHeap → Prop} {Q : Value → Shared → Prop} (X : Cx K B mg mb gl) (hA : AOk l A) (hl : l ≤ 60) (W : WF prog w B H s.heap) (hf : V B s.heap f fv) (hv : VL B s.heap args vs)
    (P : Hand prog w B NoX s H k Q) (c : callW prog w B l f args H k) : wpAny (model prog w) A (call fv vs) Q E s := by
  cases f with
  | ref a => cases V_ref.mp hf; exact c.2 A s E Q vs hA W hv P
  | bi id => cases V_bi.mp hf; exact bi_ok X.G hA hl W hv P c
  | ty id => cases V_ty.mp hf; exact ty_ok X.G hA hl W hv P c
  | _ => exact c.elim

theorem attributeBase_ok {o : Expr} {name : Str} {whole : Sem Value} (h : baseOk o = true) : attributeBase o name env whole = whole := by
  cases o with
  | Call f as ks p =>
    cases f with
    | Name id q =>
      cases as with
      | nil =>
        cases ks with
        | nil =>
          have : (id != ("super" : Str)) = true := h
          delta attributeBase
          dsimp only
          rw [this]; rfl
        | cons => rfl
      | cons => rfl
    | _ => rfl
  | _ => rfl

end

-- M5s

section
variable {prog : Program} {w : World} {B : Heap} {gl : Str → Option PV} {A : Around} {E : Value → Shared → Prop} {s : Shared} {H : AHeap} {K : Frag} {mg mb : Str → Option Value} {sc : Scope} {env : Env} {m : Loc} {l : Nat}

theorem Ns.notImm {h : Heap} {a : Addr} {mv : Str → Option Value} (n : h.Ns a mv) : ∀ o, h.get? a = some o → ¬ Imm o := fun o e => by
  obtain ⟨o', es, ep, ho, hd, _⟩ := n
  rw [ho] at e; cases e; exact notImm_dict hd
theorem IsCell.notImm {h : Heap} {a : Addr} {v : Option Value} (n : h.IsCell a v) : ∀ o, h.get? a = some o → ¬ Imm o := fun o e => by
  obtain ⟨o', ho, hd⟩ := n
  rw [ho] at e; cases e; exact notImm_cell hd

theorem IsCell.ne {h : Heap} {a c : Addr} {mv : Str → Option Value} {v : Option Value} (n : h.Ns a mv) (x : h.IsCell c v) : c ≠ a := by
  rintro rfl
  obtain ⟨o, es, ep, ho, hd, _⟩ := n
  obtain ⟨o', e, d⟩ := x
  rw [ho] at e; cases e; rw [hd] at d; cases d

theorem keep_but {h h' : Heap} {a : Addr} (ti : ∀ o, h.get? a = some o → ¬ Imm o) (S : Heap.ExtBut a h h') : KeepImm h h' := fun b o e i =>
  S b o (fun q => ti o (q ▸ e) i) e

theorem Fm.local {h h' : Heap} {x : Str} {pv : PV} {v : Value} {mv : Str → Option Value} (F : Fm B env m H h) (W : WF prog w B H h) (hx : env.kindOf x = some .local) (hv : V B h pv v)
    (hmv : h.Ns env.locals mv) (hm : ∀ y pv, m y = some pv → env.kindOf y = some .local → ∃ v, mv y = some v ∧ V B h pv v)
    (n : h'.Ns env.locals (fun y => if y = x then some v else mv y)) (S : Heap.SameBut env.locals h h') : Fm B env (m.put x pv) H h' ∧ WF prog w B H h' ∧ Step (· = env.locals) H h H h' := by
  have ki : KeepImm h h' := keep_but (Ns.notImm hmv) S.extBut
  have cl : ∀ {c : Addr} {v : Option Value}, h.IsCell c v → h'.IsCell c v := fun {c v} y => by
    have ne := IsCell.ne hmv y
    obtain ⟨o, e, d⟩ := y
    exact ⟨o, S.extBut _ _ ne e, d⟩
  refine ⟨⟨⟨_, n, fun y pv' e q => ?_⟩, fun y pv' e => ?_, fun y pv' e q => ?_, fun y q => ?_, F.inj, F.loc, F.high, F.chigh⟩, W.sameBut S.extBut F.loc F.high (Ns.notImm hmv), Step.sameBut S.extBut (.inl rfl)⟩
  · unfold Loc.put at e
    by_cases c : y = x
    · rw [if_pos c] at e; cases e
      exact ⟨v, by rw [if_pos c], hv.mono ki⟩
    · rw [if_neg c] at e
      obtain ⟨u, a, b⟩ := hm y pv' e q
      exact ⟨u, by rw [if_neg c]; exact a, b.mono ki⟩
  · unfold Loc.put at e
    by_cases c : y = x
    · rw [c]; exact .inl hx
    · rw [if_neg c] at e; exact F.kinds y pv' e
  · unfold Loc.put at e
    by_cases c : y = x
    · rw [c] at q; exact absurd hx q
    · rw [if_neg c] at e
      obtain ⟨c, u, a, b, d⟩ := F.cell y pv' e q
      exact ⟨c, u, a, cl b, d.mono ki⟩
  · obtain ⟨c, u, a, b⟩ := F.cst y q
    exact ⟨c, u, a, cl b⟩

theorem Fm.celled {h h' : Heap} {x : Str} {c : Addr} {pv : PV} {v : Value} {v₀ : Option Value} (F : Fm B env m H h) (W : WF prog w B H h) (hx : env.kindOf x = some .cell) (hc : env.cells.lookup x = some c) (hv : V B h pv v)
    (h₀ : h.IsCell c v₀) (n : h'.IsCell c (some v)) (S : Heap.SameBut c h h') : Fm B env (m.put x pv) H h' ∧ WF prog w B H h' ∧ Step (· = c) H h H h' := by
  have ki : KeepImm h h' := keep_but (IsCell.notImm h₀) S.extBut
  obtain ⟨mv, hn, hm⟩ := F.ns
  have ne := IsCell.ne hn h₀
  have cl : ∀ {y : Str} {d : Addr} {v : Option Value}, y ≠ x → env.cells.lookup y = some d → h.IsCell d v → h'.IsCell d v := fun {y d v} yx yd z => by
    have nd : d ≠ c := fun q => yx (F.inj y x c (q ▸ yd) hc)
    obtain ⟨o, e, f⟩ := z
    exact ⟨o, S.extBut _ _ nd e, f⟩
  have hn' : h'.Ns env.locals mv := by
    obtain ⟨o, es, ep, ho, r⟩ := hn
    exact ⟨o, es, ep, S.extBut _ _ (Ne.symm ne) ho, r⟩
  refine ⟨⟨⟨mv, hn', fun y pv' e q => ?_⟩, fun y pv' e => ?_, fun y pv' e q => ?_, fun y q => ?_, F.inj, F.loc, F.high, F.chigh⟩, W.sameBut S.extBut (W.noCell h₀) (F.chigh _ _ hc) (IsCell.notImm h₀), Step.sameBut S.extBut (.inl rfl)⟩
  · unfold Loc.put at e
    by_cases c : y = x
    · rw [c, hx] at q; cases q
    · rw [if_neg c] at e
      obtain ⟨u, a, b⟩ := hm y pv' e q
      exact ⟨u, a, b.mono ki⟩
  · unfold Loc.put at e
    by_cases c : y = x
    · rw [c]; exact .inr (.inl hx)
    · rw [if_neg c] at e; exact F.kinds y pv' e
  · unfold Loc.put at e
    by_cases q' : y = x
    · rw [if_pos q'] at e; cases e
      exact ⟨c, v, by rw [q']; exact hc, n, hv.mono ki⟩
    · rw [if_neg q'] at e
      obtain ⟨d, u, a, b, z⟩ := F.cell y pv' e q
      exact ⟨d, u, a, cl q' a b, z.mono ki⟩
  · by_cases q' : y = x
    · exact ⟨c, _, by rw [q']; exact hc, n⟩
    · obtain ⟨d, u, a, b⟩ := F.cst y q
      exact ⟨d, u, a, cl q' a b⟩

theorem store_local {x : Str} {pv : PV} {v : Value} {Q : Unit → Shared → Prop} (F : Fm B env m H s.heap) (W : WF prog w B H s.heap) (hf : env.scope.kind = .function) (hx : env.kindOf x = some .local) (hv : V B s.heap pv v)
    (hQ : ∀ s', Same s s' → Step (· = env.locals) H s.heap H s'.heap → WF prog w B H s'.heap → Fm B env (m.put x pv) H s'.heap → Heap.ExtBut env.locals s.heap s'.heap → Q () s') : wpAny (model prog w) A (storeName env x v) Q E s := by
  obtain ⟨mv, hn, hm⟩ := F.ns
  refine wpAny_storeName_local hx hn (fun h' n S => ?_) (by simp [hf])
  obtain ⟨a, b, c⟩ := F.local W hx hv hn hm n S
  exact hQ _ ⟨rfl, rfl, rfl⟩ c b a S.extBut

theorem store_name {x : Str} {pv : PV} {v : Value} {Q : Unit → Shared → Prop} (N : EnvOk sc env) (F : Fm B env m H s.heap) (W : WF prog w B H s.heap) (hx : (isLoc sc x || isCel sc x) = true) (hv : V B s.heap pv v)
    (hQ : ∀ s', Same s s' → Step (Own env) H s.heap H s'.heap → WF prog w B H s'.heap → Fm B env (m.put x pv) H s'.heap → Q () s') : wpAny (model prog w) A (storeName env x v) Q E s := by
  have hf : env.scope.kind = .function := by rw [N.scope]; exact N.kind
  rcases Bool.or_eq_true_iff.mp hx with hx | hx
  · have hx : env.kindOf x = some .local := by unfold Env.kindOf; rw [N.scope]; simpa [isLoc] using hx
    exact store_local F W hf hx hv fun s' a b c d _ => hQ s' a (b.weaken fun _ q => .inl q) c d
  · have hx : env.kindOf x = some .cell := by unfold Env.kindOf; rw [N.scope]; simpa [isCel] using hx
    obtain ⟨c, v₀, hc, hv₀⟩ := F.cst x hx
    refine wpAny_storeName_cell hf hx hc hv₀ fun h' n S => ?_
    obtain ⟨a, b, d⟩ := F.celled W hx hc hv hv₀ n S
    exact hQ _ ⟨rfl, rfl, rfl⟩ (d.weaken fun _ q => .inr ⟨x, hx, q ▸ hc⟩) b a
end

-- M5e

theorem compTurn_last {elt t it : Expr} {ifs : List Expr} {gens : List Comprehension} {scope : Scope} {pos : Pos} {itv acc : Value} {env : Env} {d : Nat} (hg : gens[d]? = some ⟨t, it, ifs, 0⟩) (hn : gens[d + 1]? = none) :
    compTurn (.ListComp elt gens scope pos) d itv acc env = (do
      standAt it.pos
      match ← pyNext itv with
      | none => pure (.done .next)
      | some v =>
        letOwnedTupleGo t itv v
        assign t env v
        let ok ← forIn ifs true fun c r => if r = true then do let ok ← isTrue c env (eval c env); pure (ForInStep.yield ok) else pure (ForInStep.yield r)
        if ok = true then (do
          let x ← eval elt env
          let _ ← call (.builtin "list.append") [acc, x]
          again (.compLoop (.ListComp elt gens scope pos) d itv acc env))
        else again (.compLoop (.ListComp elt gens scope pos) d itv acc env)) := by
  unfold compTurn
  simp only [hg, hn]
  simp
  rfl
theorem compTurn_more {elt t it : Expr} {ifs : List Expr} {gens : List Comprehension} {scope : Scope} {pos : Pos} {itv acc : Value} {env : Env} {d : Nat} {t' it' : Expr} {ifs' : List Expr} (hg : gens[d]? = some ⟨t, it, ifs, 0⟩) (hn : gens[d + 1]? = some ⟨t', it', ifs', 0⟩) (hs : notSet it' = true) :
    compTurn (.ListComp elt gens scope pos) d itv acc env = (do
      standAt it.pos
      match ← pyNext itv with
      | none => pure (.done .next)
      | some v =>
        letOwnedTupleGo t itv v
        assign t env v
        let ok ← forIn ifs true fun c r => if r = true then do let ok ← isTrue c env (eval c env); pure (ForInStep.yield ok) else pure (ForInStep.yield r)
        if ok = true then (do
          let x ← eval it' env
          standAt it'.pos
          let y ← holding [x] (pyIter x)
          let _ ← runOwn (.compStart (.ListComp elt gens scope pos) (d + 1) y acc env) env
          again (.compLoop (.ListComp elt gens scope pos) d itv acc env))
        else again (.compLoop (.ListComp elt gens scope pos) d itv acc env)) := by
  unfold compTurn
  have hf : ∀ x, foldedSetIterable it' env x = pure x := fun x => by cases it' <;> first | rfl | cases hs
  simp only [hg, hn]
  simp [hf]
  rfl

section
variable {prog : Program} {w : World} {B : Heap} {gl : Str → Option PV} {A : Around} {E : Value → Shared → Prop} {R : Result → Shared → Prop} {s : Shared} {H : AHeap} {K : Frag} {mg mb : Str → Option Value} {sc : Scope} {env : Env} {m : Loc} {l : Nat}

theorem codeAny_compStart_at {elt t it : Expr} {ifs : List Expr} {gens : List Comprehension} {scope : Scope} {pos : Pos} {itv acc : Value} {env : Env} {d : Nat} (hg : gens[d]? = some ⟨t, it, ifs, 0⟩)
    (h0 : codeAny (model prog w) A (.compLoop (.ListComp elt gens scope pos) d itv acc env) R s)
    (h : wpAny (model prog w) A (pyIter itv) (fun it' s' => codeAny (model prog w) A (.compLoop (.ListComp elt gens scope pos) d it' acc env) R s')
      (notedBy (model prog w) A env fun x s' => R (.error x) s') s) :
    codeAny (model prog w) A (.compStart (.ListComp elt gens scope pos) d itv acc env) R s := by
  refine codeAny_of_tree ?_
  show wpAny _ _ ((compStart (.ListComp elt gens scope pos) d itv acc env).onRaise (fun x => do noteFrame x env; standAt theWindowsPlace)) _ _ s
  refine wpAny_notedAt ?_
  unfold compStart
  have hc : (clausesOf (.ListComp elt gens scope pos))[d]? = some ⟨t, it, ifs, 0⟩ := hg
  simp only [hc]
  show wpAny _ _ (ask >>= _) _ _ s
  refine wpAny_bind (wpAny_askSetting (wpAny_ite ?_))
  split
  · first
      | exact wpAny_bind (wpAny_pure (wpAny_pure (And.intro rfl h0)))
      | exact wpAny_pure (And.intro rfl h0)
  · first
      | exact wpAny_bind (wpAny_rule (wpAny_bind (wpAny_standAt (wpAny_bind (wpAny_mono h (fun it' s' h' => wpAny_pure (And.intro rfl h')) fun _ _ x => x)))))
      | (refine wpAny_bind (wpAny_rule ?_); show wpAny _ _ (standAt it.pos >>= _) _ _ s; exact wpAny_bind (wpAny_standAt (wpAny_bind (wpAny_mono h (fun it' s' h' => wpAny_pure (And.intro rfl h')) fun _ _ x => x))))

variable (prog w B) in
/-- the state within a comprehension -/
structure CSt (env : Env) (D : Addr) (m : Loc) (acc : List PV) (H : AHeap) (h : Heap) : Prop where
  F : Fm B env m H h
  W : WF prog w B H h
  L : ∃ vs n, h.get? D = some { cls := .type "list", data := .seq vs.toArray n } ∧ VL B h acc vs
  HD : H D = none
  BD : B.get? D = none

noncomputable def CY (env : Env) (D : Addr) : Addr → Prop := fun a => a = env.locals ∨ a = D

theorem CSt.ne {D : Addr} {acc : List PV} {h : Heap} (c : CSt prog w B env D m acc H h) : D ≠ env.locals := by
  rintro rfl
  obtain ⟨mv, ⟨o, es, ep, ho, hd, _⟩, _⟩ := c.F.ns
  obtain ⟨vs, n, e, _⟩ := c.L
  rw [ho] at e; cases e; cases hd

theorem CSt.step {D : Addr} {acc : List PV} {h h' : Heap} {H' : AHeap} (c : CSt prog w B env D m acc H h) (S : Step NoX H h H' h') (W' : WF prog w B H' h') : CSt prog w B env D m acc H' h' := by
  obtain ⟨vs, n, e, v⟩ := c.L
  have k := S.keep _ _ e c.HD id
  exact ⟨c.F.step c.W S, W', ⟨vs, n, k.1, v.step c.W S⟩, k.2, c.BD⟩

theorem Fm.but {h h' : Heap} {a : Addr} {H' : AHeap} (F : Fm B env m H h) (S : Heap.ExtBut a h h') (ti : ∀ o, h.get? a = some o → ¬ Imm o) (na : a ≠ env.locals) (nc : ∀ v, ¬ h.IsCell a v) (hl : H' env.locals = none) : Fm B env m H' h' := by
  have ki := keep_but ti S
  obtain ⟨mv, ⟨o, es, ep, ho, r⟩, hm⟩ := F.ns
  have cl : ∀ {c : Addr} {v : Option Value}, h.IsCell c v → h'.IsCell c v := fun {c v} y => by
    have ne : c ≠ a := by rintro rfl; exact nc v y
    obtain ⟨o, e, d⟩ := y
    exact ⟨o, S _ _ ne e, d⟩
  refine ⟨⟨mv, ⟨o, es, ep, S _ _ (Ne.symm na) ho, r⟩, fun x pv e q => ?_⟩, F.kinds, fun x pv e q => ?_, fun x q => ?_, F.inj, hl, F.high, F.chigh⟩
  · obtain ⟨v, a, b⟩ := hm x pv e q; exact ⟨v, a, b.mono ki⟩
  · obtain ⟨c, v, a, b, d⟩ := F.cell x pv e q; exact ⟨c, v, a, cl b, d.mono ki⟩
  · obtain ⟨c, v, a, b⟩ := F.cst x q; exact ⟨c, v, a, cl b⟩

/-- another object than the comprehension's own changes -/
theorem CSt.but {D : Addr} {acc : List PV} {h h' : Heap} {a : Addr} (c : CSt prog w B env D m acc H h) (S : Heap.ExtBut a h h') (ti : ∀ o, h.get? a = some o → ¬ Imm o) (na : a ≠ env.locals) (nD : a ≠ D) (nc : ∀ v, ¬ h.IsCell a v) (Ha : H a = none) (Ba : B.get? a = none) :
    CSt prog w B env D m acc H h' := by
  obtain ⟨vs, n, e, v⟩ := c.L
  exact ⟨c.F.but S ti na nc c.F.loc, c.W.sameBut S Ha Ba ti, ⟨vs, n, S _ _ (Ne.symm nD) e, v.mono (keep_but ti S)⟩, c.HD, c.BD⟩

/-- the comprehension's own list grows -/
theorem CSt.grow {D : Addr} {acc : List PV} {h h' : Heap} {pv : PV} {v : Value} {vs : List Value} {n n' : Nat} (c : CSt prog w B env D m acc H h) (S : Heap.ExtBut D h h') (e : h.get? D = some { cls := .type "list", data := .seq vs.toArray n }) (hv : VL B h acc vs)
    (e' : h'.get? D = some { cls := .type "list", data := .seq (vs ++ [v]).toArray n' }) (x : V B h pv v) : CSt prog w B env D m (acc ++ [pv]) H h' := by
  have ti : ∀ o, h.get? D = some o → ¬ Imm o := fun o q => by rw [e] at q; cases q; simp [Imm]
  have ki := keep_but ti S
  refine ⟨c.F.but S ti c.ne (fun v ⟨o, q, d⟩ => by rw [e] at q; cases q; cases d) c.F.loc, c.W.sameBut S c.HD c.BD ti, ⟨_, _, e', ?_⟩, c.HD, c.BD⟩
  exact (hv.mono ki).append (VL_cons.mpr ⟨v, [], rfl, x.mono ki, VL_nil.mpr rfl⟩)

end

-- M5f

section
variable {prog : Program} {w : World} {B : Heap} {gl : Str → Option PV} {A : Around} {E : Value → Shared → Prop} {R : Result → Shared → Prop} {s : Shared} {H : AHeap} {K : Frag} {mg mb : Str → Option Value} {sc : Scope} {env : Env} {m : Loc} {l : Nat}

variable (prog w B) in
structure CInv (s₀ : Shared) (H₀ : AHeap) (env : Env) (D I : Addr) (src : Option (Addr × AObj)) (full : List PV) (i : Nat) (m : Loc) (acc : List PV) (H : AHeap) (s : Shared) : Prop where
  same : Same s₀ s
  st : Step (CY env D) H₀ s₀.heap H s.heap
  c : CSt prog w B env D m acc H s.heap
  HI : H I = none
  BI : B.get? I = none
  it : IterAt B s.heap I src full i

section
variable {s₀ : Shared} {H₀ : AHeap} {D I : Addr} {src : Option (Addr × AObj)} {full : List PV} {i : Nat} {acc : List PV}

theorem CInv.neL (c : CInv prog w B s₀ H₀ env D I src full i m acc H s) : I ≠ env.locals := by
  rintro rfl
  obtain ⟨mv, ⟨o, es, ep, ho, hd, _⟩, _⟩ := c.c.F.ns
  obtain ⟨o', e, _, vs, hd'⟩ := c.it.obj
  rw [ho] at e; cases e; rw [hd] at hd'; cases hd'
theorem CInv.neD (c : CInv prog w B s₀ H₀ env D I src full i m acc H s) : I ≠ D := by
  rintro rfl
  obtain ⟨vs, n, e, _⟩ := c.c.L
  obtain ⟨o', e', _, vs', hd'⟩ := c.it.obj
  rw [e] at e'; cases e'; cases hd'
theorem CInv.notCell (c : CInv prog w B s₀ H₀ env D I src full i m acc H s) : ∀ v, ¬ s.heap.IsCell I v := by
  rintro v ⟨o, e, d⟩
  obtain ⟨o', e', _, vs', hd'⟩ := c.it.obj
  rw [e] at e'; cases e'; rw [d] at hd'; cases hd'
theorem CInv.ti (c : CInv prog w B s₀ H₀ env D I src full i m acc H s) : ∀ o, s.heap.get? I = some o → ¬ Imm o := fun o e => by
  obtain ⟨o', e', n, _⟩ := c.it.obj
  rw [e] at e'; cases e'; exact n
theorem CInv.yi (c : CInv prog w B s₀ H₀ env D I src full i m acc H s) : ∀ a o, CY env D a → s.heap.get? a = some o → ¬ Imm o := by
  rintro a o (rfl | rfl) e
  · obtain ⟨mv, hn, _⟩ := c.c.F.ns; exact Ns.notImm hn o e
  · obtain ⟨vs, n, e', _⟩ := c.c.L; rw [e] at e'; cases e'; simp [Imm]

/-- a step of its parts -/
theorem CInv.step {H' : AHeap} {s' : Shared} (c : CInv prog w B s₀ H₀ env D I src full i m acc H s) (sm : Same s s') (S : Step NoX H s.heap H' s'.heap) (W' : WF prog w B H' s'.heap) : CInv prog w B s₀ H₀ env D I src full i m acc H' s' := by
  obtain ⟨o, e, _⟩ := c.it.obj
  exact ⟨c.same.trans sm, c.st.trans S.ofNo, c.c.step S W', (S.keep _ _ e c.HI id).2, c.BI, c.it.mono (S.imm c.c.W fun _ _ x => x.elim) fun o e => (S.keep _ _ e c.HI id).1⟩
/-- a step of an inner walk -/
theorem CInv.inner {H' : AHeap} {s' : Shared} {m' : Loc} {acc' : List PV} (c : CInv prog w B s₀ H₀ env D I src full i m acc H s) (sm : Same s s') (S : Step (CY env D) H s.heap H' s'.heap) (c' : CSt prog w B env D m' acc' H' s'.heap) : CInv prog w B s₀ H₀ env D I src full i m' acc' H' s' := by
  obtain ⟨o, e, _⟩ := c.it.obj
  have nx : ¬ CY env D I := by rintro (q | q); exact c.neL q; exact c.neD q
  exact ⟨c.same.trans sm, c.st.trans S, c', (S.keep _ _ e c.HI nx).2, c.BI, c.it.mono (S.imm c.c.W c.yi) fun o e => (S.keep _ _ e c.HI nx).1⟩
theorem CInv.moved {h' : Heap} {tk : Nat} (c : CInv prog w B s₀ H₀ env D I src full i m acc H s) (f : s₀.heap.get? I = none) (S : Heap.ExtBut I s.heap h') {j : Nat} (it' : IterAt B h' I src full j) :
    CInv prog w B s₀ H₀ env D I src full j m acc H { s with heap := h', toks := tk } :=
  ⟨c.same.trans ⟨rfl, rfl, rfl⟩, c.st.atNew f S, c.c.but S c.ti c.neL c.neD c.notCell c.HI c.BI, c.HI, c.BI, it'⟩
theorem CInv.put {s' : Shared} {x : Str} {pv : PV} (c : CInv prog w B s₀ H₀ env D I src full i m acc H s) (sm : Same s s') (S : Heap.ExtBut env.locals s.heap s'.heap) (W' : WF prog w B H s'.heap) (F' : Fm B env (m.put x pv) H s'.heap) :
    CInv prog w B s₀ H₀ env D I src full i (m.put x pv) acc H s' := by
  obtain ⟨mv, hn, _⟩ := c.c.F.ns
  have ki := keep_but (Ns.notImm hn) S
  obtain ⟨vs, n, e, v⟩ := c.c.L
  exact ⟨c.same.trans sm, c.st.trans (Step.sameBut S (.inl (.inl rfl))), ⟨F', W', ⟨vs, n, S _ _ c.c.ne e, v.mono ki⟩, c.c.HD, c.c.BD⟩, c.HI, c.BI, c.it.mono ki fun o e => S _ _ c.neL e⟩
theorem CInv.grown {h' : Heap} {pv : PV} {v : Value} {vs : List Value} {n n' : Nat} (c : CInv prog w B s₀ H₀ env D I src full i m acc H s) (S : Heap.ExtBut D s.heap h') (e : s.heap.get? D = some { cls := .type "list", data := .seq vs.toArray n }) (hv : VL B s.heap acc vs)
    (e' : h'.get? D = some { cls := .type "list", data := .seq (vs ++ [v]).toArray n' }) (x : V B s.heap pv v) : CInv prog w B s₀ H₀ env D I src full i m (acc ++ [pv]) H { s with heap := h' } := by
  have ti : ∀ o, s.heap.get? D = some o → ¬ Imm o := fun o q => by rw [e] at q; cases q; simp [Imm]
  have ki := keep_but ti S
  exact ⟨c.same.trans ⟨rfl, rfl, rfl⟩, c.st.trans (Step.sameBut S (.inl (.inr rfl))), c.c.grow S e hv e' x, c.HI, c.BI, c.it.mono ki fun o e => S _ _ c.neD e⟩
end

end

-- M5g

noncomputable def compCl (scope : Scope) (env : Env) : List (Str × Addr) := ((scope.names.filter fun y => y.2 == .free).map fun p => (p.1, (env.cells.lookup p.1).getD 0)).reverse

theorem closure_go {env : Env} : ∀ {names : List (Str × NameKind)} (acc : List (Str × Addr)), (∀ y ∈ names, y.2 = .free → ∃ c, env.cells.lookup y.1 = some c) →
    (forIn names acc fun x r => if (x.2 == NameKind.free) = true then do let a ← cellOf env x.1; pure (ForInStep.yield ((x.1, a) :: r)) else pure (ForInStep.yield r) : Sem _) =
      pure (((names.filter fun y => y.2 == .free).map fun p => (p.1, (env.cells.lookup p.1).getD 0)).reverse ++ acc)
  | [], acc, _ => rfl
  | y :: r, acc, h => by
    rw [List.forIn_cons]
    cases hy : y.2 == NameKind.free with
    | true =>
      obtain ⟨c, hc⟩ := h y (.head _) (by simpa using hy)
      have e : cellOf env y.1 = pure c := by unfold cellOf; rw [hc]
      rw [if_pos rfl, e]
      simp only [pure_bind]
      rw [closure_go _ fun z hz => h z (.tail _ hz)]
      simp [List.filter_cons, hy, hc]
    | false =>
      rw [if_neg (by simp)]
      simp only [pure_bind]
      rw [closure_go _ fun z hz => h z (.tail _ hz)]
      simp [List.filter_cons, hy]
theorem closure_ok {scope : Scope} {env : Env} (h : ∀ y ∈ scope.names, y.2 = .free → ∃ c, env.cells.lookup y.1 = some c) : closureFor scope env = pure (compCl scope env) := by
  have := closure_go (env := env) [] h
  rw [List.append_nil] at this
  unfold compCl
  rw [← this]
  unfold closureFor
  rw [bind_pure]

theorem compCl_mem {scope : Scope} {env : Env} {x : Str} {c : Addr} (h : ∀ y ∈ scope.names, y.2 = .free → ∃ c, env.cells.lookup y.1 = some c) (e : (compCl scope env).lookup x = some c) : env.cells.lookup x = some c := by
  have m : (x, c) ∈ compCl scope env := by
    have := List.lookup_eq_some_iff.mp e
    obtain ⟨l₁, l₂, q, _⟩ := this
    rw [q]; simp
  unfold compCl at m
  simp only [List.mem_reverse, List.mem_map, List.mem_filter, Prod.mk.injEq] at m
  obtain ⟨p, ⟨hp, hf⟩, rfl, hc⟩ := m
  obtain ⟨c', hc'⟩ := h p hp (by simpa using hf)
  rw [hc'] at hc ⊢; simpa using hc
theorem compCl_has {scope : Scope} {env : Env} {x : Str} (h : ∀ y ∈ scope.names, y.2 = .free → ∃ c, env.cells.lookup y.1 = some c) (e : (x, NameKind.free) ∈ scope.names) : (compCl scope env).lookup x = env.cells.lookup x := by
  obtain ⟨c, hc⟩ := h _ e rfl
  cases q : (compCl scope env).lookup x with
  | some d => rw [compCl_mem h q]
  | none =>
    rw [List.lookup_eq_none_iff] at q
    have m : (x, c) ∈ compCl scope env := by
      unfold compCl
      simp only [List.mem_reverse, List.mem_map, List.mem_filter, Prod.mk.injEq]
      exact ⟨(x, .free), ⟨e, rfl⟩, rfl, by rw [hc]; rfl⟩
    simpa using q _ m

theorem lookup_relabel {env : Env} : ∀ {names : List (Str × NameKind)} {x : Str},
    (names.map fun (n, k) => if (k == NameKind.free && env.scope.kind == .function && env.kindOf n == some .cell) then (n, NameKind.cell) else (n, k)).lookup x =
      (names.lookup x).map fun k => if (k == NameKind.free && env.scope.kind == .function && env.kindOf x == some .cell) then NameKind.cell else k
  | [], x => rfl
  | (n, k) :: r, x => by
    have ih := @lookup_relabel env r x
    show List.lookup x ((if (k == NameKind.free && env.scope.kind == .function && env.kindOf n == some .cell) = true then (n, NameKind.cell) else (n, k)) :: _) = _
    cases hx : x == n with
    | true =>
      have hx' := eq_of_beq hx
      subst hx'
      by_cases hc : (k == NameKind.free && env.scope.kind == .function && env.kindOf x == some .cell) = true
      · rw [if_pos hc]; simp only [List.lookup_cons, beq_self_eq_true, Option.map_some]; rw [if_pos hc]
      · rw [if_neg hc]; simp only [List.lookup_cons, beq_self_eq_true, Option.map_some]; rw [if_neg hc]
    | false =>
      by_cases hc : (k == NameKind.free && env.scope.kind == .function && env.kindOf n == some .cell) = true
      · rw [if_pos hc]; simp only [List.lookup_cons, hx]; exact ih
      · rw [if_neg hc]; simp only [List.lookup_cons, hx]; exact ih

theorem relabel_eq {scope sc : Scope} {env : Env} (N : EnvOk sc env) : relabel scope env = relabelS scope sc := by
  unfold relabel relabelS Env.kindOf
  rw [N.scope]

structure CompOk (scope sc : Scope) : Prop where
  kind : scope.kind = .function
  noCell : ∀ y ∈ scope.names, y.2 ≠ .cell
  locals : ∀ y ∈ scope.names, y.2 = .local → scope.names.lookup y.1 = some .local
  free : ∀ y ∈ scope.names, y.2 = .free → sc.names.lookup y.1 = some .cell ∧ scope.names.lookup y.1 = some .free

theorem lookup_mem {x : Str} {k : NameKind} {names : List (Str × NameKind)} (e : names.lookup x = some k) : (x, k) ∈ names := by
  obtain ⟨l₁, l₂, q, _⟩ := List.lookup_eq_some_iff.mp e
  rw [q]; simp

section
variable {prog : Program} {w : World} {B : Heap} {gl : Str → Option PV} {A : Around} {E : Value → Shared → Prop} {R : Result → Shared → Prop} {s : Shared} {H : AHeap} {K : Frag} {mg mb : Str → Option Value} {sc : Scope} {env : Env} {m : Loc} {l : Nat}

theorem CompOk.cells {scope : Scope} {h : Heap} (C : CompOk scope sc) (N : EnvOk sc env) (F : Fm B env m H h) : ∀ y ∈ scope.names, y.2 = .free → ∃ c, env.cells.lookup y.1 = some c := fun y hy hf => by
  obtain ⟨c, v, a, _⟩ := F.cst y.1 (by unfold Env.kindOf; rw [N.scope]; exact (C.free y hy hf).1)
  exact ⟨c, a⟩

theorem comp_frame {scope : Scope} {h h' : Heap} {Cc : Addr} {mv : Str → Option Value} (C : CompOk scope sc) (N : EnvOk sc env) (F : Fm B env m H h) (W : WF prog w B H h) (k : ∀ b o, h.get? b = some o → h'.get? b = some o) (fr : h.get? Cc = none) (n : h'.Ns Cc mv) :
    Fm B (compEnvC scope (compCl scope env) Cc env) (compLoc scope m) H h' := by
  have cs := C.cells N F
  have ki : KeepImm h h' := fun a o e _ => k _ _ e
  have ek : ∀ x, (compEnvC scope (compCl scope env) Cc env).kindOf x = (scope.names.lookup x).map fun k => if (k == NameKind.free && env.scope.kind == .function && env.kindOf x == some .cell) then NameKind.cell else k := fun x => lookup_relabel
  have fk : ∀ x, scope.names.lookup x = some .free → (compEnvC scope (compCl scope env) Cc env).kindOf x = some .cell := fun x e => by
    have := (C.free _ (lookup_mem e) rfl).1
    rw [ek, e]
    have q : env.kindOf x = some .cell := by unfold Env.kindOf; rw [N.scope]; exact this
    simp [q, N.scope, N.kind]
  have kf : ∀ x, (compEnvC scope (compCl scope env) Cc env).kindOf x = some .cell → scope.names.lookup x = some .free := fun x e => by
    rw [ek] at e
    cases q : scope.names.lookup x with
    | none => rw [q] at e; cases e
    | some kk =>
      rw [q] at e
      simp only [Option.map_some, Option.some.injEq] at e
      split at e
      · rename_i c
        simp only [Bool.and_eq_true, beq_iff_eq] at c
        rw [c.1.1]
      · subst e
        exact absurd rfl (C.noCell _ (lookup_mem q))
  have cl : ∀ {c : Addr} {v : Option Value}, h.IsCell c v → h'.IsCell c v := fun {c v} ⟨o, e, d⟩ => ⟨o, k _ _ e, d⟩
  have cf : ∀ x pv, compLoc scope m x = some pv → scope.names.lookup x = some .free ∧ m x = some pv := fun x pv e => by
    unfold compLoc at e
    by_cases q : scope.names.lookup x = some .free
    · rw [if_pos q] at e; exact ⟨q, e⟩
    · rw [if_neg q] at e; cases e
  have ec : ∀ x, env.kindOf x = sc.names.lookup x := fun x => by unfold Env.kindOf; rw [N.scope]
  refine ⟨⟨mv, n, fun x pv e q => ?_⟩, fun x pv e => .inr (.inl (fk x (cf x pv e).1)), fun x pv e q => ?_, fun x q => ?_, fun x y c e1 e2 => F.inj x y c (compCl_mem cs e1) (compCl_mem cs e2), W.fresh fr, W.freshB fr, fun x c e => F.chigh x c (compCl_mem cs e)⟩
  · rw [fk x (cf x pv e).1] at q; cases q
  · obtain ⟨e1, e2⟩ := cf x pv e
    obtain ⟨c, v, a, b, d⟩ := F.cell x pv e2 (by rw [ec, (C.free _ (lookup_mem e1) rfl).1]; decide)
    exact ⟨c, v, by show (compCl scope env).lookup x = _; rw [compCl_has cs (lookup_mem e1)]; exact a, cl b, d.mono ki⟩
  · have e1 := kf x q
    obtain ⟨c, v, a, b⟩ := F.cst x (by rw [ec, (C.free _ (lookup_mem e1) rfl).1])
    exact ⟨c, v, by show (compCl scope env).lookup x = _; rw [compCl_has cs (lookup_mem e1)]; exact a, cl b⟩
end

-- M5h

section
variable {prog : Program} {w : World} {B : Heap} {gl : Str → Option PV} {A : Around} {E : Value → Shared → Prop} {R : Result → Shared → Prop} {s : Shared} {H : AHeap} {K : Frag} {mg mb : Str → Option Value} {sc : Scope} {env : Env} {m : Loc} {l : Nat}

variable (prog w B) in
/-- a comprehension's end -/
structure CEnd (s : Shared) (H : AHeap) (D C : Addr) (acc : List PV) (H' : AHeap) (s' : Shared) : Prop where
  same : Same s s'
  st : Step NoX H s.heap H' s'.heap
  W : WF prog w B H' s'.heap
  L : ∃ vs n, s'.heap.get? D = some { cls := .type "list", data := .seq vs.toArray n } ∧ VL B s'.heap acc vs
  HD : H' D = none
  BD : B.get? D = none
  fD : s.heap.get? D = none
  ns : ∃ mv, s'.heap.Ns C mv
  HC : H' C = none
  BC : B.get? C = none
  fC : s.heap.get? C = none
  ne : D ≠ C

theorem CEnd.fin {D C : Addr} {acc : List PV} {H' : AHeap} {s' : Shared} {h' : Heap} {k : PV → AHeap → Prop} {Q : Value → Shared → Prop} (c : CEnd prog w B s H D C acc H' s') (S : Heap.SameBut C s'.heap h') (P : Hand prog w B NoX s H k Q) (hk : newW (.list acc) H' k) : Q (.ref D) { s' with heap := h' } := by
  obtain ⟨vs, n, e, hvs⟩ := c.L
  obtain ⟨mv, hn⟩ := c.ns
  have ki := keep_but (Ns.notImm hn) S.extBut
  have W₁ : WF prog w B H' h' := c.W.sameBut S.extBut c.HC c.BC (Ns.notImm hn)
  exact P _ _ _ _ (c.same.trans ⟨rfl, rfl, rfl⟩) ((c.st.atNew c.fC S.extBut).alloc c.fD) (W₁.alloc (ao := .list acc) c.HD c.BD ⟨vs, n, S.extBut _ _ c.ne e, hvs.mono ki⟩) (V_ref.mpr rfl) (hk D c.HD)

theorem compOk_of {scope : Scope} (c1 : scope.kind = .function) (c2 : (scope.names.all fun y => y.2 != .cell) = true) (c3 : (scope.names.all fun y => y.2 != .local || isLoc scope y.1) = true)
    (c4 : (scope.names.all fun y => y.2 != .free || (isCel sc y.1 && (scope.names.lookup y.1 == some .free))) = true) : CompOk scope sc := by
  rw [List.all_eq_true] at c2 c3 c4
  refine ⟨c1, fun y hy e => ?_, fun y hy e => ?_, fun y hy e => ?_⟩
  · have := c2 y hy; rw [e] at this; exact absurd this (by decide)
  · have := c3 y hy; rw [e] at this; simpa [isLoc] using this
  · have := c4 y hy; rw [e] at this; simpa [isCel] using this

end

-- M6b

section
variable {prog : Program} {w : World} {B : Heap} {gl : Str → Option PV} {A : Around} {E : Value → Shared → Prop} {R : Result → Shared → Prop} {s : Shared} {H : AHeap} {K : Frag} {mg mb : Str → Option Value} {sc : Scope} {env : Env} {m : Loc} {l : Nat}

theorem Fm.yi {h : Heap} (F : Fm B env m H h) : ∀ a o, Own env a → h.get? a = some o → ¬ Imm o := by
  rintro a o (rfl | ⟨x, e, q⟩) t
  · obtain ⟨mv, hn, _⟩ := F.ns; exact Ns.notImm hn o t
  · obtain ⟨c, v, a', b⟩ := F.cst x e
    rw [q] at a'; cases a'
    exact IsCell.notImm b o t
theorem assignEach_plain {t : Expr} {r : List Expr} (h : notStar t = true) : assignEach (t :: r) env = (false, assign t env) :: assignEach r env := by
  cases t <;> first | rfl | cases h
theorem assignEach_len : ∀ {ts : List Expr}, (assignEach ts env).length = ts.length
  | [] => rfl
  | t :: r => by cases t <;> exact congrArg (· + 1) (assignEach_len (ts := r))
/-! what the iterators are not -/
theorem IterAt.cls {h : Heap} {I : Addr} {src : Option (Addr × AObj)} {full : List PV} {i : Nat} (x : IterAt B h I src full i) : ∃ o n, h.get? I = some o ∧ o.cls = .type n ∧
    ["enumerate", "zip", "dict_itemiterator", "dict_reverseitemiterator", "odict_iterator", "itertools.zip_longest", "itertools.pairwise"].contains n = false ∧ ∃ vs, o.data = .fields vs := by
  cases x with
  | list _ _ x => obtain ⟨o, ho, hc, hd⟩ := x; exact ⟨o, _, ho, hc, by decide, _, hd⟩
  | flist _ _ _ _ _ x => obtain ⟨o, ho, hc, hd⟩ := x; exact ⟨o, _, ho, hc, by decide, _, hd⟩
  | tup _ _ _ _ _ x => obtain ⟨o, ho, hc, hd⟩ := x; exact ⟨o, _, ho, hc, by decide, _, hd⟩
  | bytes _ _ _ _ _ _ x => obtain ⟨o, ho, hc, hd⟩ := x; exact ⟨o, _, ho, hc, by decide, _, hd⟩
  | ascii _ _ _ _ x => obtain ⟨o, ho, hc, hd⟩ := x; exact ⟨o, _, ho, hc, by decide, _, hd⟩
  | wide _ _ _ _ x => obtain ⟨o, ho, hc, hd⟩ := x; exact ⟨o, _, ho, hc, by decide, _, hd⟩
  | rng _ _ _ _ x _ => exact ⟨_, _, x, rfl, by decide, _, rfl⟩
  | dict _ _ _ _ _ x => obtain ⟨o, ho, hc, hd⟩ := x; exact ⟨o, _, ho, hc, by decide, _, hd⟩
theorem owned_ok {I : Addr} {src : Option (Addr × AObj)} {full : List PV} {i : Nat} {t : Expr} {v : Value} {Q : Unit → Shared → Prop} (x : IterAt B s.heap I src full i) (hQ : Q () s) : wpAny (model prog w) A (letOwnedTupleGo t (.ref I) v) Q E s := by
  obtain ⟨o, n, ho, hc, hn, vs, hd⟩ := x.cls
  have go : letOwnedTupleGo t (.ref I) v = letOwnedTupleGo (.Tuple [] 0 ⟨0, 0, 0, 0⟩) (.ref I) v ∨ letOwnedTupleGo t (.ref I) v = pure () := by
    cases t with
    | Tuple => exact .inl rfl
    | List => exact .inl rfl
    | _ => exact .inr rfl
  rcases go with e | e <;> rw [e]
  · cases v with
    | ref a =>
      refine wpAny_bind (wpAny_load ho ?_)
      rw [hc, hd]
      dsimp only
      rw [hn]
      exact wpAny_pure hQ
    | _ => exact wpAny_pure hQ
  · exact wpAny_pure hQ
end

-- M6c

noncomputable def FlV (B h : Heap) : Fl → Flow → Prop
  | .next, f => f = .next
  | .brk, f => f = .brk
  | .cont, f => f = .cont
  | .ret pv, f => ∃ v, f = .ret v ∧ V B h pv v

section
variable {prog : Program} {w : World} {B : Heap} {gl : Str → Option PV} {A : Around} {E : Value → Shared → Prop} {R : Result → Shared → Prop} {s : Shared} {H : AHeap} {K : Frag} {mg mb : Str → Option Value} {sc : Scope} {env : Env} {m : Loc} {l : Nat}

theorem EnvOk.quiet (N : EnvOk sc env) : interactive env = false := by
  unfold interactive
  simp [N.scope, N.kind]
theorem swaps_plain {e : Expr} {t : Option Expr} {n : Nat} (h : notComp e = true) : swapsWith e t n env = pure false := by
  cases e <;> first | rfl | cases h

end

-- M6d

section
variable {prog : Program} {w : World} {B : Heap} {gl : Str → Option PV} {A : Around} {E : Value → Shared → Prop} {R : Result → Shared → Prop} {s : Shared} {H : AHeap} {K : Frag} {mg mb : Str → Option Value} {sc : Scope} {env : Env} {m : Loc} {l : Nat}

variable (prog w B) in
structure FInv (s₀ : Shared) (H₀ : AHeap) (env : Env) (I : Addr) (src : Option (Addr × AObj)) (full : List PV) (i : Nat) (m : Loc) (H : AHeap) (s : Shared) : Prop where
  same : Same s₀ s
  st : Step (Own env) H₀ s₀.heap H s.heap
  F : Fm B env m H s.heap
  W : WF prog w B H s.heap
  HI : H I = none
  BI : B.get? I = none
  it : IterAt B s.heap I src full i

section
variable {s₀ : Shared} {H₀ : AHeap} {I : Addr} {src : Option (Addr × AObj)} {full : List PV} {i : Nat}
theorem FInv.neO (c : FInv prog w B s₀ H₀ env I src full i m H s) : ¬ Own env I := by
  obtain ⟨o', e, _, vs, hd'⟩ := c.it.obj
  rintro (rfl | ⟨x, q, q'⟩)
  · obtain ⟨mv, ⟨o, es, ep, ho, hd, _⟩, _⟩ := c.F.ns
    rw [ho] at e; cases e; rw [hd] at hd'; cases hd'
  · obtain ⟨d, v, a, o, b, z⟩ := c.F.cst x q
    rw [q'] at a; cases a
    rw [b] at e; cases e; rw [z] at hd'; cases hd'
theorem FInv.notCell (c : FInv prog w B s₀ H₀ env I src full i m H s) : ∀ v, ¬ s.heap.IsCell I v := by
  rintro v ⟨o, e, d⟩
  obtain ⟨o', e', _, vs', hd'⟩ := c.it.obj
  rw [e] at e'; cases e'; rw [d] at hd'; cases hd'
theorem FInv.ti (c : FInv prog w B s₀ H₀ env I src full i m H s) : ∀ o, s.heap.get? I = some o → ¬ Imm o := fun o e => by
  obtain ⟨o', e', n, _⟩ := c.it.obj
  rw [e] at e'; cases e'; exact n
theorem FInv.moved {h' : Heap} {tk : Nat} (c : FInv prog w B s₀ H₀ env I src full i m H s) (f : s₀.heap.get? I = none) (S : Heap.ExtBut I s.heap h') {j : Nat} (it' : IterAt B h' I src full j) :
    FInv prog w B s₀ H₀ env I src full j m H { s with heap := h', toks := tk } :=
  ⟨c.same.trans ⟨rfl, rfl, rfl⟩, c.st.atNew f S, c.F.but S c.ti (fun q => c.neO (.inl q)) c.notCell c.F.loc, c.W.sameBut S c.HI c.BI c.ti, c.HI, c.BI, it'⟩
theorem FInv.go {H' : AHeap} {s' : Shared} {m' : Loc} (c : FInv prog w B s₀ H₀ env I src full i m H s) (sm : Same s s') (S : Step (Own env) H s.heap H' s'.heap) (W' : WF prog w B H' s'.heap) (F' : Fm B env m' H' s'.heap) : FInv prog w B s₀ H₀ env I src full i m' H' s' := by
  obtain ⟨o, e, _⟩ := c.it.obj
  exact ⟨c.same.trans sm, c.st.trans S, F', W', (S.keep _ _ e c.HI c.neO).2, c.BI, c.it.mono (S.imm c.W c.F.yi) fun o e => (S.keep _ _ e c.HI c.neO).1⟩
end

end

-- M7

noncomputable def fnOf? (K : Frag) (a : Addr) : Option FuncData := match K.lookup a with
  | some ⟨_, _, .func fd, _⟩ => some fd
  | _ => none
noncomputable def fnOk (K : Frag) (fd : FuncData) : Bool := codeIn K fd.code fd.qualname && fd.closure.isEmpty && (fd.scope.names.all fun y => y.2 != .cell) && fd.scope.kind == .function && !fd.scope.isCoroutine && !fd.scope.isGenerator && fd.globals == mainGlobals && fd.builtins == builtinsNs

section
variable {prog : Program} {w : World} {B : Heap} {gl : Str → Option PV} {A : Around} {E : Value → Shared → Prop} {R : Result → Shared → Prop} {s : Shared} {H : AHeap} {K : Frag} {mg mb : Str → Option Value} {sc : Scope} {env : Env} {m : Loc} {l : Nat}

variable (B) in
noncomputable def BindOk (fd : FuncData) (args : List PV) (m₀ : Loc) : Prop := ∀ (s : Shared) (vs : List Value), (∀ b o, B.get? b = some o → s.heap.get? b = some o) → VL B s.heap args vs →
  ∃ binds, BindsTo s fd ⟨vs, []⟩ binds ∧ (∀ x ∈ binds, fd.scope.names.lookup x.1 = some .local) ∧ ∀ x pv, m₀ x = some pv → ∃ v, binds.reverse.lookup x = some v ∧ V B s.heap pv v

theorem fn_keep {a : Addr} {fd : FuncData} (X : Cx K B mg mb gl) (hf : fnOf? K a = some fd) : Keep prog w B (.ref a) := fun h hk => by
  refine keeps_K (K := K) ?_ h (X.G.X.keeps hk)
  unfold fnOf? at hf
  unfold keepIn
  split at hf
  · rename_i q; simp only [q]
  · cases hf

noncomputable def Loc.ofL : List Str → List PV → Loc
  | x :: xs, p :: ps => (Loc.ofL xs ps).put x p
  | _, _ => Loc.nil

theorem zip_find {x : Str} {v : Value} : ∀ {xs : List Str} {vs : List Value}, xs.Nodup → (x, v) ∈ xs.zip vs → (xs.zip vs).reverse.lookup x = some v := by
  intro xs vs hn hm
  have key : ∀ (l : List (Str × Value)), (l.map (·.1)).Nodup → (x, v) ∈ l → l.lookup x = some v := by
    intro l
    induction l with
    | nil => intro _ h; cases h
    | cons p l ih =>
      obtain ⟨y, u⟩ := p
      intro hn hm
      simp only [List.map_cons, List.nodup_cons, List.mem_map] at hn
      rw [List.lookup_cons]
      rcases List.mem_cons.mp hm with h | h
      · cases h; simp
      · have : (x == y) = false := by
          rw [beq_eq_false_iff_ne]; rintro rfl; exact hn.1 ⟨(x, v), h, rfl⟩
        rw [this]; exact ih hn.2 h
  refine key _ ?_ (by simpa using hm)
  rw [List.map_reverse]
  refine List.pairwise_reverse.mpr (List.Pairwise.imp (fun h => Ne.symm h) ?_)
  have : ∀ (xs : List Str) (vs : List Value), xs.Nodup → ((xs.zip vs).map (·.1)).Nodup := by
    intro xs
    induction xs with
    | nil => intro vs _; simp
    | cons y xs ih =>
      intro vs hn
      cases vs with
      | nil => simp
      | cons u vs =>
        rw [List.zip_cons_cons, List.map_cons, List.nodup_cons]
        rw [List.nodup_cons] at hn
        refine ⟨fun h => hn.1 ?_, ih vs hn.2⟩
        obtain ⟨q, hq, e⟩ := List.mem_map.mp h
        have e' : q.1 = y := e
        rw [← e']; exact (List.of_mem_zip (a := q.1) (b := q.2) hq).1
  exact this xs vs hn

theorem ofL_get {h : Heap} {x : Str} {pv : PV} : ∀ {xs : List Str} {ps : List PV} {vs : List Value}, VL B h ps vs → Loc.ofL xs ps x = some pv → ∃ v, (x, v) ∈ xs.zip vs ∧ V B h pv v
  | [], _, _, _, e => by cases e
  | _ :: _, [], _, _, e => by cases e
  | y :: xs, p :: ps, vs, hv, e => by
    obtain ⟨v, vr, rfl, h1, h2⟩ := VL_cons.mp hv
    unfold Loc.ofL Loc.put at e
    by_cases c : x = y
    · rw [if_pos c] at e; cases e
      exact ⟨v, by rw [c]; simp, h1⟩
    · rw [if_neg c] at e
      obtain ⟨u, a, b⟩ := ofL_get h2 e
      exact ⟨u, by rw [List.zip_cons_cons]; exact .tail _ a, b⟩

/-- a def whose arguments are all given -/
theorem bind_plain {fd : FuncData} {xs : List Str} {args : List PV} (hn : xs.Nodup) (he : ∀ vs : List Value, vs.length = args.length → bindArgs fd ⟨vs, []⟩ = pure (xs.zip vs)) (hx : ∀ x ∈ xs, fd.scope.names.lookup x = some .local) : BindOk B fd args (Loc.ofL xs args) :=
  fun s vs hk hv => ⟨xs.zip vs, BindsTo.of_eq (he vs hv.length), fun p hp => hx _ (List.of_mem_zip (a := p.1) (b := p.2) hp).1, fun x pv e => by
    obtain ⟨v, a, b⟩ := ofL_get hv e
    exact ⟨v, zip_find hn a, b⟩⟩

/-- a def whose last arguments are its defaults -/
theorem bind_dflt {fd : FuncData} {xs : List Str} {args ds : List PV} {T : Addr} {dv : List Value} {n : Nat} (XK : K.In B) (hn : xs.Nodup) (hd : fd.defaults = .ref T)
    (hT : K.lookup T = some { cls := .type "tuple", data := .seq dv.toArray n }) (hds : VL B B ds dv)
    (h₁ : ∀ vs : List Value, vs.length = args.length → ∃ kk : Option (Array Value) → Sem (List (Str × Value)), bindArgs fd ⟨vs, []⟩ = (seqItems? fd.defaults >>= kk) ∧ kk (some dv.toArray) = pure (xs.zip (vs ++ dv)))
    (hx : ∀ x ∈ xs, fd.scope.names.lookup x = some .local) : BindOk B fd args (Loc.ofL xs (args ++ ds)) :=
  fun s vs hk hv => by
    obtain ⟨kk, e1, e2⟩ := h₁ vs hv.length
    refine ⟨xs.zip (vs ++ dv), BindsTo.of_defaults hd (hk _ _ (XK _ _ hT)) rfl e1 e2, fun p hp => hx _ (List.of_mem_zip (a := p.1) (b := p.2) hp).1, fun x pv e => ?_⟩
    obtain ⟨v, a, b⟩ := ofL_get (hv.append (hds.mono fun a o e _ => hk a o e)) e
    exact ⟨v, zip_find hn a, b⟩
end

-- M8

/-- the signs of a literal -/
noncomputable def cs (x : String) : List Nat := (Str.ofString x).cps.toList

noncomputable def compGuard (sc : Scope) (it : Expr) (gs : List Comprehension) (scope : Scope) : Bool := notSet it && (gs.all fun g => g.is_async == 0 && notSet g.iter) && scope.kind == .function && (scope.names.all fun y => y.2 != .cell) && (scope.names.all fun y => y.2 != .local || isLoc scope y.1) &&
  (scope.names.all fun y => y.2 != .free || (isCel sc y.1 && (scope.names.lookup y.1 == some .free)))
theorem len0 {C : List Value → Prop} (h : C []) (vs : List Value) (e : vs.length = 0) : C vs := by
  cases vs with
  | nil => exact h
  | cons => cases e
theorem lenS {C : List Value → Prop} {n : Nat} (h : ∀ a, ∀ vs : List Value, vs.length = n → C (a :: vs)) (vs : List Value) (e : vs.length = n + 1) : C vs := by
  cases vs with
  | nil => cases e
  | cons a r => exact h a r (Nat.succ.inj e)
theorem len1 {C : List Value → Prop} (h : ∀ a, C [a]) : ∀ vs : List Value, vs.length = 1 → C vs := lenS fun a => len0 (C := fun r => C (a :: r)) (h a)
theorem len2 {C : List Value → Prop} (h : ∀ a b, C [a, b]) : ∀ vs : List Value, vs.length = 2 → C vs := lenS fun a => len1 (C := fun r => C (a :: r)) (h a)
theorem len3 {C : List Value → Prop} (h : ∀ a b c, C [a, b, c]) : ∀ vs : List Value, vs.length = 3 → C vs := lenS fun a => len2 (C := fun r => C (a :: r)) (h a)
theorem len4 {C : List Value → Prop} (h : ∀ a b c d, C [a, b, c, d]) : ∀ vs : List Value, vs.length = 4 → C vs := lenS fun a => len3 (C := fun r => C (a :: r)) (h a)

-- M9

noncomputable def glL : List (Str × PV) := [(Str.ofString "Cursor", .ref 155), (Str.ofString "lower_code", .ref 166), (Str.ofString "lower", .ref 171), (Str.ofString "lower_text", .ref 176), (Str.ofString "charset_names", .ref 184), (Str.ofString "charset_name", .ref 191), (Str.ofString "need_charset", .ref 198), (Str.ofString "follower_span", .ref 205), (Str.ofString "utf8_sign", .ref 212), (Str.ofString "sign_at", .ref 219), (Str.ofString "text_in", .ref 226), (Str.ofString "strict_text", .ref 233), (Str.ofString "guessed_text", .ref 240), (Str.ofString "line_end", .ref 248), (Str.ofString "inside_at", .ref 255), (Str.ofString "closed_at", .ref 262), (Str.ofString "comment_at", .ref 269), (Str.ofString "is_token_code", .ref 277), (Str.ofString "skip_between", .ref 284), (Str.ofString "take_token", .ref 291), (Str.ofString "is_worth_code", .ref 298), (Str.ofString "take_worth", .ref 305), (Str.ofString "small_word", .ref 310), (Str.ofString "take_pairs", .ref 317), (Str.ofString "part_number", .ref 324), (Str.ofString "part_of", .ref 331), (Str.ofString "hex_worth", .ref 336), (Str.ofString "percent_decoded", .ref 343), (Str.ofString "charset_cut", .ref 348), (Str.ofString "joined_worth", .ref 355), (Str.ofString "params_of", .ref 362), (Str.ofString "read_value", .ref 369), (Str.ofString "_law_pot", .ref 374), (Str.ofString "_law_draw", .ref 381), (Str.ofString "_law_signs", .ref 388), (Str.ofString "_law_charsets", .ref 395), (Str.ofString "_law_sign_octets", .ref 402), (Str.ofString "_law_percent", .ref 409), (Str.ofString "_law_quoted", .ref 414), (Str.ofString "_law_text", .ref 421), (Str.ofString "ASCII", .str (cs "us-ascii")), (Str.ofString "LATIN", .str (cs "iso-8859-1")), (Str.ofString "UTF8", .str (cs "utf-8")), (Str.ofString "CHARSETS", .tup [.str (cs "us-ascii"), .str (cs "iso-8859-1"), .str (cs "utf-8")]), (Str.ofString "UNKNOWN_SIGN", .str [65533]), (Str.ofString "NEVER_ESCAPED", .tup [.int 0, .int 10, .int 13]), (Str.ofString "WHITE", .tup [.int 9, .int 10, .int 13, .int 32]), (Str.ofString "SEMICOLON", .int 59), (Str.ofString "EQUALS", .int 61), (Str.ofString "QUOTE", .int 34), (Str.ofString "BRACKET", .int 40), (Str.ofString "PER_CENT", .int 37), (Str.ofString "BARRED", .bytes [40, 41, 60, 62, 64, 44, 59, 58, 92, 34, 47, 91, 93, 63, 61]), (Str.ofString "HEX_FIGURES", .bytes [48, 49, 50, 51, 52, 53, 54, 55, 56, 57, 65, 66, 67, 68, 69, 70]), (Str.ofString "len", .bi "len"), (Str.ofString "ord", .bi "ord"), (Str.ofString "chr", .bi "chr"), (Str.ofString "abs", .bi "abs"), (Str.ofString "min", .bi "min"), (Str.ofString "bytes", .ty "bytes"), (Str.ofString "int", .ty "int"), (Str.ofString "range", .ty "range")]
noncomputable def gl0 : Str → Option PV := fun x => glL.lookup x

-- M9b

theorem tr_at {α : Type} {x y : α} (P : α → Prop) (e : x = y) (h : P y) : P x := by cases e; exact h
section
variable {prog : Program} {w : World} {B : Heap} {H : AHeap} {k : PV → AHeap → Prop}
section
variable {x y : Int} {a b : List Nat}
theorem p_mul (c : -(2 ^ 64) < x ∧ x < 2 ^ 64) (h : k (.int (x * y)) H) : binW .Mult (.int x) (.int y) H k := ⟨c, h⟩
theorem p_div (c : 0 < y ∧ y < 1073741824) (h : k (.int (x / y)) H) : binW .FloorDiv (.int x) (.int y) H k := ⟨c, h⟩
theorem p_mod (c : 0 < y) (h : k (.int (x % y)) H) : binW .Mod (.int x) (.int y) H k := ⟨c, h⟩
theorem p_rsh (c : 0 ≤ y) (h : k (.int (x / 2 ^ y.toNat)) H) : binW .RShift (.int x) (.int y) H k := ⟨c, h⟩
theorem p_cat (c : a.length + b.length ≤ 16777216) (h : k (.bytes (a ++ b)) H) : binW .Add (.bytes a) (.bytes b) H k := ⟨c, h⟩
theorem p_scat (c : a.length + b.length ≤ 16777216) (h : k (.str (a ++ b)) H) : binW .Add (.str a) (.str b) H k := ⟨c, h⟩
end
section
variable {k : Bool → AHeap → Prop} {b : Bool} {i : Int} {x : List Nat}
theorem p_ts (c : x.length ≤ 16777216) (h : k (x.length != 0) H) : truthW (.str x) H k := ⟨c, h⟩
theorem p_tby (c : x.length ≤ 16777216) (h : k (x.length != 0) H) : truthW (.bytes x) H k := ⟨c, h⟩
theorem p_tl {a : Addr} {ps : List PV} (e : H a = some (.list ps)) (c : ps.length ≤ 16777216) (h : k (ps.length != 0) H) : truthW (.ref a) H k :=
  tr_at (fun o => match o with | some (.list x) => x.length ≤ 16777216 ∧ k (x.length != 0) H | _ => False) e ⟨c, h⟩
end
/-! items -/
section
variable {x : List Nat} {n : Int}
theorem seq_at {n : Int} {l : Nat} (h0 : 0 ≤ n) (h : n < l) : seqIndex? n l = some n.toNat := by
  unfold seqIndex?
  rw [if_neg (Int.not_lt.mpr h0)]
  exact if_pos (by rw [decide_eq_true h0, decide_eq_true h]; rfl)
theorem seq_last {l : Nat} (h : 0 < l) : seqIndex? (-1) l = some (l - 1) := by
  have e : (if (-1 : Int) < 0 then (-1 : Int) + l else -1) = ((l - 1 : Nat) : Int) := by rw [if_pos (by decide)]; omega
  unfold seqIndex?
  rw [e]
  exact if_pos (by rw [decide_eq_true (Int.natCast_nonneg _), decide_eq_true (Int.ofNat_lt.mpr (Nat.sub_lt h Nat.one_pos))]; rfl)
theorem lt_at {n : Int} {l : Nat} (h0 : 0 ≤ n) (h : n < l) : n.toNat < l := (Int.toNat_lt h0).mpr h
theorem p_bitem (c : x.length ≤ 16777216 ∧ 0 ≤ n ∧ n < x.length) (h : k (.int (x.getD n.toNat 0)) H) : itemW (.bytes x) (.int n) H k := .bytes c h
theorem p_sitem (c : x.length ≤ 16777216 ∧ 0 ≤ n ∧ n < x.length) (h : k (.str [x.getD n.toNat 0]) H) : itemW (.str x) (.int n) H k :=
  .str (by rw [decide_eq_false (by omega), decide_eq_false (by omega)]; rfl) (seq_at c.2.1 c.2.2) (lt_at c.2.1 c.2.2) h
theorem p_slast (c : x.length ≤ 16777216 ∧ 0 < x.length) (h : k (.str [x.getD (x.length - 1) 0]) H) : itemW (.str x) (.int (-1)) H k :=
  .str (by decide) (seq_last c.2) (Nat.sub_lt c.2 Nat.one_pos) h
theorem p_litem {a : Addr} {ps : List PV} (e : H a = some (.list ps)) (c : ps.length ≤ 16777216 ∧ 0 ≤ n ∧ n < ps.length) (h : k (ps.getD n.toNat .none) H) : itemW (.ref a) (.int n) H k := .list e c h
theorem p_llast {a : Addr} {ps : List PV} (e : H a = some (.list ps)) (c : ps.length ≤ 16777216 ∧ 0 < ps.length) (h : k (ps.getD (ps.length - 1) .none) H) : itemW (.ref a) (.int (-1)) H k := .last e c h
theorem p_iditem {a : Addr} {kvs : List (Int × PV)} {v : PV} (e : H a = some (.idict kvs)) (g : iget kvs n = some v) (h : k v H) : itemW (.ref a) (.int n) H k := .idict e g h
theorem p_sditem {a : Addr} {kvs : List (List Nat × PV)} {ep : Nat} {v : PV} (e : H a = some (.sdict kvs ep)) (g : sget kvs x = some v) (h : k v H) : itemW (.ref a) (.str x) H k := .sdict e g h
end
/-! slices -/
section
variable {x : List Nat} {i j : Nat} {lo hi : PV}
theorem p_bslice (c : partI x.length 0 lo = some i ∧ partI x.length x.length hi = some j) (z : x.length ≤ 1000000) (h : k (.bytes (cut x i j)) H) : sliceW (.bytes x) lo hi .none H k := .bytes c.1 c.2 z h
theorem p_sslice (c : partI x.length 0 lo = some i ∧ partI x.length x.length hi = some j) (z : x.length ≤ 1000000) (h : k (.str (cut x i j)) H) : sliceW (.str x) lo hi .none H k := .str c.1 c.2 z h
theorem p_fslice {x : List PV} (c : partI x.length 0 lo = some i ∧ partI x.length x.length hi = some j) (z : x.length ≤ 1000000) (h : ∀ a, H a = none → k (.ref a) (H.set a (.list (cut x i j)))) : sliceW (.flist x) lo hi .none H k := .flist c.1 c.2 z h
theorem p_rev {a : Addr} {ps : List PV} (e : H a = some (.list ps)) (c : ps.length ≤ 1000000) (h : ∀ b, H b = none → k (.ref b) (H.set b (.list ps.reverse))) : sliceW (.ref a) .none .none (.int (-1)) H k := .rev e c h
end
/-! cursors -/
abbrev cAt : Str := Str.ofString "at"
abbrev cData : Str := Str.ofString "data"
abbrev cEnd : Str := Str.ofString "end"
noncomputable def curKv (d : List Nat) (i e : Int) : List (Str × PV) := [(cData, .bytes d), (cAt, .int i), (cEnd, .int e)]
noncomputable def CurAt (H : AHeap) (c dx : Addr) (d : List Nat) (i : Int) : Prop := H c = some (.inst curC dx) ∧ H dx = some (.attrs (curKv d i d.length))
theorem isCur {n : Str} (h : decide (n ∈ curAttrs) = true) : n ∈ curAttrs := of_decide_eq_true h
noncomputable def attrV (o : Option PV) (k : PV → Prop) : Prop := match o with | some (.bytes b) => k (.bytes b) | some (.int b) => k (.int b) | _ => False
section
variable {c dx : Addr} {d : List Nat} {i : Int} {k : PV → Prop}
theorem p_cur (C : CurAt H c dx d i) {n : Str} (m : n ∈ curAttrs) (h : attrV (aget (curKv d i d.length) n) k) : attrW (.ref c) n H k :=
  tr_at (fun o => match o with
    | some (.inst C dx) => C = curC ∧ n ∈ curAttrs ∧ (match H dx with
      | some (.attrs kvs) => (match aget kvs n with | some (.bytes b) => k (.bytes b) | some (.int b) => k (.int b) | _ => False)
      | _ => False)
    | _ => False) C.1 ⟨rfl, m, tr_at (fun o => match o with
      | some (.attrs kvs) => (match aget kvs n with | some (.bytes b) => k (.bytes b) | some (.int b) => k (.int b) | _ => False)
      | _ => False) C.2 h⟩
theorem p_data (C : CurAt H c dx d i) (h : k (.bytes d)) : attrW (.ref c) cData H k :=
  p_cur C (isCur (by kernel_rfl)) (tr_at (fun o => attrV o k) (show aget (curKv d i d.length) cData = some (.bytes d) by kernel_rfl) h)
theorem p_at (C : CurAt H c dx d i) (h : k (.int i)) : attrW (.ref c) cAt H k :=
  p_cur C (isCur (by kernel_rfl)) (tr_at (fun o => attrV o k) (show aget (curKv d i d.length) cAt = some (.int i) by kernel_rfl) h)
theorem p_end (C : CurAt H c dx d i) (h : k (.int d.length)) : attrW (.ref c) cEnd H k :=
  p_cur C (isCur (by kernel_rfl)) (tr_at (fun o => attrV o k) (show aget (curKv d i d.length) cEnd = some (.int d.length) by kernel_rfl) h)
end
theorem p_setattr {c dx : Addr} {kvs kvs' : List (Str × PV)} {x : Str} {v : PV} {k : AHeap → Prop} (h1 : H c = some (.inst curC dx)) (h2 : H dx = some (.attrs kvs)) (hx : x ∈ curAttrs) (hk : kvs.length ≤ 900) (e : aput kvs x v = kvs') (h : k (H.set dx (.attrs kvs'))) : setAttrW (.ref c) x v H k := by
  cases e
  exact tr_at (fun o => match o with
    | some (.inst C dx) => C = curC ∧ x ∈ curAttrs ∧ (match H dx with
      | some (.attrs kvs) => kvs.length ≤ 900 ∧ k (H.set dx (.attrs (aput kvs x v)))
      | _ => False)
    | _ => False) h1 ⟨rfl, hx, tr_at (fun o => match o with
      | some (.attrs kvs) => kvs.length ≤ 900 ∧ k (H.set dx (.attrs (aput kvs x v)))
      | _ => False) h2 ⟨hk, h⟩⟩
theorem p_setat {c dx : Addr} {d : List Nat} {i j : Int} {k : AHeap → Prop} (C : CurAt H c dx d i) (h : k (H.set dx (.attrs (curKv d j d.length)))) : setAttrW (.ref c) cAt (.int j) H k :=
  p_setattr C.1 C.2 (isCur (by kernel_rfl)) (Nat.le_of_ble_eq_true rfl) (by kernel_rfl) h
end
/-! storing of items -/
section
variable {H : AHeap} {k : AHeap → Prop} {x : List Nat} {i : Int} {a : Addr} {ps : List PV} {v : PV}
theorem p_setl (e : H a = some (.list ps)) (c : ps.length ≤ 16777216 ∧ 0 ≤ i ∧ i < ps.length) (h : k (H.set a (.list (ps.set i.toNat v)))) : setItemW (.ref a) (.int i) v H k := .list e ⟨by omega, by omega⟩ (seq_at c.2.1 c.2.2) (lt_at c.2.1 c.2.2) h
theorem p_setlast (e : H a = some (.list ps)) (c : ps.length ≤ 16777216 ∧ 0 < ps.length) (h : k (H.set a (.list (ps.set (ps.length - 1) v)))) : setItemW (.ref a) (.int (-1)) v H k := .list e ⟨by decide, by decide⟩ (seq_last c.2) (Nat.sub_lt c.2 Nat.one_pos) h
theorem p_setid {kvs : List (Int × PV)} (e : H a = some (.idict kvs)) (c : kvs.length ≤ 1000000) (h : k (H.set a (.idict (iput kvs i v)))) : setItemW (.ref a) (.int i) v H k := .idict e c h
theorem p_setid0 {ep : Nat} (e : H a = some (.sdict [] ep)) (h : k (H.set a (.idict [(i, v)]))) : setItemW (.ref a) (.int i) v H k := .idict0 e h
theorem p_setsd {kvs : List (List Nat × PV)} {ep : Nat} (e : H a = some (.sdict kvs ep)) (c : kvs.length ≤ 1000000) (h : ∀ ep', k (H.set a (.sdict (sput kvs x v) ep'))) : setItemW (.ref a) (.str x) v H k := .sdict e c h
end
/-! methods -/
section
variable {H : AHeap} {c dx a : Addr} {d x : List Nat} {i : Int} {ps : List PV} {kvs : List (List Nat × PV)} {ep : Nat} {kvi : List (Int × PV)}
noncomputable def curM (kvs : List (Str × PV)) (n : Str) : Option PV := if (aget kvs n).isNone then (curMeths.lookup n).map .ref else none
theorem m_cur (C : CurAt H c dx d i) {n : Str} {f : PV} (h : curM (curKv d i d.length) n = some f) : methW (.ref c) n H = some f := by
  unfold methW
  dsimp only
  rw [C.1]
  dsimp only
  rw [if_pos rfl, C.2]
  exact h
theorem m_peek (C : CurAt H c dx d i) : methW (.ref c) (Str.ofString "peek") H = some (.ref 103) := m_cur C (by kernel_rfl)
theorem m_take (C : CurAt H c dx d i) : methW (.ref c) (Str.ofString "take") H = some (.ref 110) := m_cur C (by kernel_rfl)
theorem m_is_done (C : CurAt H c dx d i) : methW (.ref c) (Str.ofString "is_done") H = some (.ref 95) := m_cur C (by kernel_rfl)
theorem m_sjoin : methW (.str x) (Str.ofString "join") H = some (.bi "str.join") := by kernel_rfl
theorem m_find : methW (.str x) (Str.ofString "find") H = some (.bi "str.find") := by kernel_rfl
theorem m_bjoin : methW (.bytes x) (Str.ofString "join") H = some (.bi "bytes.join") := by kernel_rfl
theorem m_split : methW (.bytes x) (Str.ofString "split") H = some (.bi "bytes.split") := by kernel_rfl
theorem m_index : methW (.bytes x) (Str.ofString "index") H = some (.bi "bytes.index") := by kernel_rfl
theorem m_of {n : Str} {o : AObj} {f : PV} (e : H a = some o) (h : methW (.ref a) n (fun _ => some o) = some f) (g : ∀ C dx, o ≠ .inst C dx) : methW (.ref a) n H = some f := by
  unfold methW at h ⊢
  dsimp only at h ⊢
  rw [e]
  cases o with
  | inst C dx => exact absurd rfl (g C dx)
  | _ => exact h
theorem m_append (e : H a = some (.list ps)) : methW (.ref a) (Str.ofString "append") H = some (.bi "list.append") := m_of e (by kernel_rfl) (fun _ _ z => by cases z)
theorem m_insert (e : H a = some (.list ps)) : methW (.ref a) (Str.ofString "insert") H = some (.bi "list.insert") := m_of e (by kernel_rfl) (fun _ _ z => by cases z)
theorem m_gets (e : H a = some (.sdict kvs ep)) : methW (.ref a) (Str.ofString "get") H = some (.bi "dict.get") := m_of e (by kernel_rfl) (fun _ _ z => by cases z)
theorem m_geti (e : H a = some (.idict kvi)) : methW (.ref a) (Str.ofString "get") H = some (.bi "dict.get") := m_of e (by kernel_rfl) (fun _ _ z => by cases z)
end

-- M9c

noncomputable def bodyOf (K : Frag) (a : Addr) : List Stmt := match fnOf? K a with
  | some fd => (match fd.body with | .stmts b => b | _ => [])
  | none => []
noncomputable def scOf (K : Frag) (a : Addr) : Scope := match fnOf? K a with
  | some fd => fd.scope
  | none => { kind := .function, names := [], isGenerator := false, isCoroutine := false }
noncomputable def isStmts : FuncBody → Bool
  | .stmts _ => true
  | _ => false
noncomputable def goodFn (K : Frag) (a : Addr) (xs : List Str) : Bool := match fnOf? K a with
  | some fd => fnOk K fd && isStmts fd.body && (xs.all fun x => fd.scope.names.lookup x == some .local)
  | none => false
section
variable {prog : Program} {w : World} {B : Heap} {gl : Str → Option PV} {H : AHeap} {K : Frag} {mg mb : Str → Option Value} {l : Nat} {k : PV → AHeap → Prop}

theorem AHeap.Le.refl (H : AHeap) : H.Le H := fun _ _ e => e
end

-- R1

/-! the resolved tree: locals by slot, globals by value, tests apart -/
mutual
inductive RE where
  | val (v : PV)
  | loc (i : Nat)
  | bin (op : Operator) (a b : RE)
  | neg (a : RE)
  | nt (a : RE)
  | bool (op : BoolOp) (es : RL)
  | cmp1 (op : CmpOp) (a b : RE)
  | cmp2 (o1 o2 : CmpOp) (a b c : RE)
  | ife (t : RT) (a b : RE)
  | meth (o : RE) (name : Str) (args : RL)
  | call (f : PV) (args : RL)
  | attr (o : RE) (name : Str)
  | sub (o i : RE)
  | slice (o lo hi st : RE)
  | list (es : RL)
  | tup (es : RL)
  | dict0
  | dict1 (a b : RE)
  | comp1 (elt : RE) (t : Nat) (it : RE)
  | comp2 (elt : RE) (t : Nat) (it : RE) (t' : Nat) (it' : RE) (c : RT)
inductive RL where
  | nil
  | cons (e : RE) (r : RL)
inductive RT where
  | nt (a : RT)
  | all (op : BoolOp) (es : RTL)
  | cmp1 (op : CmpOp) (a b : RE)
  | cmp2 (o1 o2 : CmpOp) (a b c : RE)
  | ife (t a b : RT)
  | tr (e : RE)
inductive RTL where
  | nil
  | cons (e : RT) (r : RTL)
end

/-- what is assigned -/
inductive RA where
  | loc (i : Nat)
  | attr (o : RE) (name : Str)
  | sub (o i : RE)
  | locs (is : List Nat)
  | la (i : Nat) (o : RE) (name : Str)

mutual
inductive RS where
  | ret (e : RE)
  | pass
  | cont
  | brk
  | expr (e : RE)
  | asg (t : RA) (e : RE)
  | ite (t : RT) (a b : RSs)
  | wh (t : RT) (a : RSs)
  | fr (t : RA) (it : RE) (a : RSs)
  | tr (a : RSs)
  | bad
inductive RSs where
  | nil
  | cons (s : RS) (r : RSs)
end

abbrev Slots := Nat → Option PV
noncomputable def Slots.put (r : Slots) (i : Nat) (v : PV) : Slots := fun j => bif Nat.beq j i then some v else r j
noncomputable def Slots.clr (r : Slots) (i : Nat) : Slots := fun j => bif Nat.beq j i then none else r j

/-- what all functions of the walk have in common -/
structure Ctx where
  prog : Program
  w : World
  B : Heap
  mg : Str → Option Value
  mb : Str → Option Value
  ok : Cx (K0 w.params) B mg mb gl0

/-- a branch: whnf stops here -/
structure Br (c : Bool) (X Y : Prop) : Prop where
  yes : c = true → X
  no : c = false → Y

/-- a call, at level L -/
structure CallX (G : Ctx) (L : Nat) (f : PV) (args : List PV) (H : AHeap) (k : PV → AHeap → Prop) : Prop where
  go : callW G.prog G.w G.B L f args H k

/-- what is walked over: whnf stops here -/
structure Its (iv : PV) (H : AHeap) (k : List PV → Option (Addr × AObj) → Prop) : Prop where
  go : itemsW iv H k

section
variable (G : Ctx) (L : Nat)
abbrev KV := PV → AHeap → Prop
abbrev KB := Bool → AHeap → Prop
abbrev TX := AHeap → KV → Prop
abbrev TXT := AHeap → KB → Prop
abbrev TXL := AHeap → (List PV → AHeap → Prop) → Prop

noncomputable def locK (o : Option PV) (k : KV) (H : AHeap) : Prop := match o with
  | some v => k v H
  | none => False
noncomputable def fBin2 (op : Operator) (u : PV) (k : KV) (v : PV) (H : AHeap) : Prop := binW op u v H k
noncomputable def fBin1 (b : TX) (op : Operator) (k : KV) (u : PV) (H : AHeap) : Prop := b H (fBin2 op u k)
noncomputable def fNeg (k : KV) (u : PV) (H : AHeap) : Prop := match u with
  | .int i => k (.int (-i)) H
  | _ => False
noncomputable def fNt2 (k : KV) (c : Bool) (H : AHeap) : Prop := k (.bool (!c)) H
noncomputable def fNt (k : KV) (u : PV) (H : AHeap) : Prop := truthW u H (fNt2 k)
noncomputable def fCmp2 (op : CmpOp) (u : PV) (k : KV) (v : PV) (H : AHeap) : Prop := cmpH G.prog G.w G.B op u v H k
noncomputable def fCmp1 (b : TX) (op : CmpOp) (k : KV) (u : PV) (H : AHeap) : Prop := b H (fCmp2 G op u k)
/-- a chain of two, as a value -/
noncomputable def fChE (c : TX) (o2 : CmpOp) (v : PV) (x : PV) (k : KV) (t : Bool) (H : AHeap) : Prop := Br t (c H (fCmp2 G o2 v k)) (k x H)
noncomputable def fChD (c : TX) (o2 : CmpOp) (v : PV) (k : KV) (x : PV) (H : AHeap) : Prop := truthW x H (fChE G c o2 v x k)
noncomputable def fChC (c : TX) (o1 o2 : CmpOp) (u : PV) (k : KV) (v : PV) (H : AHeap) : Prop := cmpH G.prog G.w G.B o1 u v H (fChD G c o2 v k)
noncomputable def fChB (b c : TX) (o1 o2 : CmpOp) (k : KV) (u : PV) (H : AHeap) : Prop := b H (fChC G c o1 o2 u k)
/-- a chain of two, as a test -/
noncomputable def fTr (k : KB) (v : PV) (H : AHeap) : Prop := truthW v H k
noncomputable def fTeE (c : TX) (o2 : CmpOp) (v : PV) (k : KB) (t : Bool) (H : AHeap) : Prop := Br t (c H (fCmp2 G o2 v (fTr k))) (k false H)
noncomputable def fTeD (c : TX) (o2 : CmpOp) (v : PV) (k : KB) (x : PV) (H : AHeap) : Prop := truthW x H (fTeE G c o2 v k)
noncomputable def fTeC (c : TX) (o1 o2 : CmpOp) (u : PV) (k : KB) (v : PV) (H : AHeap) : Prop := cmpH G.prog G.w G.B o1 u v H (fTeD G c o2 v k)
noncomputable def fTeB (b c : TX) (o1 o2 : CmpOp) (k : KB) (u : PV) (H : AHeap) : Prop := b H (fTeC G c o1 o2 u k)
noncomputable def fIf {α : Type} (a b : AHeap → (α → AHeap → Prop) → Prop) (k : α → AHeap → Prop) (c : Bool) (H : AHeap) : Prop := Br c (a H k) (b H k)
noncomputable def fMeth2 (ov f : PV) (k : KV) (vs : List PV) (H : AHeap) : Prop := CallX G L f (ov :: vs) H k
noncomputable def methX (r : Option PV) (a : TXL) (ov : PV) (H : AHeap) (k : KV) : Prop := match r with
  | some f => a H (fMeth2 G L ov f k)
  | none => False
noncomputable def fMeth (n : Str) (a : TXL) (k : KV) (ov : PV) (H : AHeap) : Prop := methX G L (methW ov n H) a ov H k
noncomputable def fCall (f : PV) (k : KV) (vs : List PV) (H : AHeap) : Prop := CallX G L f vs H k
noncomputable def fAttr2 (H : AHeap) (k : KV) (v : PV) : Prop := k v H
noncomputable def fAttr (n : Str) (k : KV) (ov : PV) (H : AHeap) : Prop := attrW ov n H (fAttr2 H k)
noncomputable def fSub2 (ov : PV) (k : KV) (iv : PV) (H : AHeap) : Prop := itemW ov iv H k
noncomputable def fSub1 (i : TX) (k : KV) (ov : PV) (H : AHeap) : Prop := i H (fSub2 ov k)
noncomputable def fSl4 (o a b : PV) (k : KV) (c : PV) (H : AHeap) : Prop := sliceW o a b c H k
noncomputable def fSl3 (c : TX) (o a : PV) (k : KV) (b : PV) (H : AHeap) : Prop := c H (fSl4 o a b k)
noncomputable def fSl2 (b c : TX) (o : PV) (k : KV) (a : PV) (H : AHeap) : Prop := b H (fSl3 c o a k)
noncomputable def fSl1 (a b c : TX) (k : KV) (o : PV) (H : AHeap) : Prop := a H (fSl2 b c o k)
noncomputable def fList (k : KV) (vs : List PV) (H : AHeap) : Prop := newW (.list vs) H k
noncomputable def fTup (k : KV) (vs : List PV) (H : AHeap) : Prop := k (.tup vs) H
noncomputable def fD2 (u : PV) (k : KV) (v : PV) (H : AHeap) : Prop := match u with
  | .int i => newW (.idict [(i, v)]) H k
  | _ => False
noncomputable def fD1 (b : TX) (k : KV) (u : PV) (H : AHeap) : Prop := b H (fD2 u k)
noncomputable def fL2 (v : PV) (k : List PV → AHeap → Prop) (vs : List PV) (H : AHeap) : Prop := k (v :: vs) H
noncomputable def fL1 (r : TXL) (k : List PV → AHeap → Prop) (v : PV) (H : AHeap) : Prop := r H (fL2 v k)
noncomputable def fNot (k : KB) (c : Bool) (H : AHeap) : Prop := k (!c) H
noncomputable def fAll (op : BoolOp) (r : TXT) (k : KB) (c : Bool) (H : AHeap) : Prop := match op with
  | .And => Br c (r H k) (k false H)
  | .Or => Br c (k true H) (r H k)
noncomputable def fBo2 (op : BoolOp) (v : PV) (r : TX) (k : KV) (c : Bool) (H : AHeap) : Prop := match op with
  | .And => Br c (r H k) (k v H)
  | .Or => Br c (k v H) (r H k)
noncomputable def fBo1 (op : BoolOp) (r : TX) (k : KV) (v : PV) (H : AHeap) : Prop := truthW v H (fBo2 op v r k)

/-- a comprehension's loop -/
abbrev KC := Slots → List PV → AHeap → Prop
noncomputable def XForC (step : PV → Slots → List PV → AHeap → KC → Prop) (src : Option (Addr × AObj)) (k : KC) : List PV → Slots → List PV → AHeap → Prop
  | [], r, acc, H => k r acc H
  | x :: xs, r, acc, H => step x r acc H fun r' acc' H' => srcOk src H' ∧ XForC step src k xs r' acc' H'
noncomputable def fEm (r : Slots) (acc : List PV) (k : KC) (v : PV) (H : AHeap) : Prop := acc.length ≤ 16777216 ∧ k r (acc ++ [v]) H
noncomputable def fCo1 (elt : Slots → TX) (t : Nat) (x : PV) (r : Slots) (acc : List PV) (H : AHeap) (k : KC) : Prop := elt (r.put t x) H (fEm (r.put t x) acc k)
noncomputable def fCoB (elt : Slots → TX) (r : Slots) (acc : List PV) (k : KC) (c : Bool) (H : AHeap) : Prop := Br c (elt r H (fEm r acc k)) (k r acc H)
noncomputable def fCo2 (elt : Slots → TX) (t' : Nat) (c : Slots → TXT) (x : PV) (r : Slots) (acc : List PV) (H : AHeap) (k : KC) : Prop := c (r.put t' x) H (fCoB elt (r.put t' x) acc k)
noncomputable def fItC (step : PV → Slots → List PV → AHeap → KC → Prop) (r : Slots) (acc : List PV) (k : KC) (iv : PV) (H : AHeap) : Prop := Its iv H fun xs src => XForC step src k xs r acc H
noncomputable def fCo3 (elt : Slots → TX) (t : Nat) (it' : Slots → TX) (t' : Nat) (c : Slots → TXT) (x : PV) (r : Slots) (acc : List PV) (H : AHeap) (k : KC) : Prop := it' (r.put t x) H (fItC (fCo2 elt t' c) (r.put t x) acc k)
noncomputable def fNewL (k : KV) (r : Slots) (acc : List PV) (H : AHeap) : Prop := newW (.list acc) H k

mutual
noncomputable def XE : RE → Slots → AHeap → KV → Prop
  | .val v, _, H, k => k v H
  | .loc i, r, H, k => locK (r i) k H
  | .bin op a b, r, H, k => XE a r H (fBin1 (XE b r) op k)
  | .neg a, r, H, k => XE a r H (fNeg k)
  | .nt a, r, H, k => XE a r H (fNt k)
  | .bool op es, r, H, k => XB es op r H k
  | .cmp1 op a b, r, H, k => XE a r H (fCmp1 G (XE b r) op k)
  | .cmp2 o1 o2 a b c, r, H, k => XE a r H (fChB G (XE b r) (XE c r) o1 o2 k)
  | .ife t a b, r, H, k => XT t r H (fIf (XE a r) (XE b r) k)
  | .meth o n as, r, H, k => XE o r H (fMeth G L n (XLs as r) k)
  | .call f as, r, H, k => XLs as r H (fCall G L f k)
  | .attr o n, r, H, k => XE o r H (fAttr n k)
  | .sub o i, r, H, k => XE o r H (fSub1 (XE i r) k)
  | .slice o a b c, r, H, k => XE o r H (fSl1 (XE a r) (XE b r) (XE c r) k)
  | .list es, r, H, k => XLs es r H (fList k)
  | .tup es, r, H, k => XLs es r H (fTup k)
  | .dict0, _, H, k => newW (.sdict [] 0) H k
  | .dict1 a b, r, H, k => XE a r H (fD1 (XE b r) k)
  | .comp1 elt t it, r, H, k => XE it r H (fItC (fCo1 (XE elt) t) (r.clr t) [] (fNewL k))
  | .comp2 elt t it t' it' c, r, H, k => XE it r H (fItC (fCo3 (XE elt) t (XE it') t' (XT c)) ((r.clr t).clr t') [] (fNewL k))
noncomputable def XLs : RL → Slots → AHeap → (List PV → AHeap → Prop) → Prop
  | .nil, _, H, k => k [] H
  | .cons e es, r, H, k => XE e r H (fL1 (XLs es r) k)
noncomputable def XT : RT → Slots → AHeap → KB → Prop
  | .nt a, r, H, k => XT a r H (fNot k)
  | .all op es, r, H, k => XA es op r H k
  | .cmp1 op a b, r, H, k => XE a r H (fCmp1 G (XE b r) op (fTr k))
  | .cmp2 o1 o2 a b c, r, H, k => XE a r H (fTeB G (XE b r) (XE c r) o1 o2 k)
  | .ife t a b, r, H, k => XT t r H (fIf (XT a r) (XT b r) k)
  | .tr e, r, H, k => XE e r H (fTr k)
noncomputable def XA : RTL → BoolOp → Slots → AHeap → KB → Prop
  | .nil, op, _, H, k => k (match op with | .And => true | .Or => false) H
  | .cons e es, op, r, H, k => XT e r H (fAll op (XA es op r) k)
noncomputable def XB : RL → BoolOp → Slots → AHeap → KV → Prop
  | .nil, _, _, _, _ => False
  | .cons e .nil, _, r, H, k => XE e r H k
  | .cons e (.cons e' es), op, r, H, k => XE e r H (fBo1 op (XB (.cons e' es) op r) k)
end

abbrev KF := Fl → Slots → AHeap → Prop
noncomputable def fAa (n : Str) (v : PV) (r : Slots) (k : Slots → AHeap → Prop) (ov : PV) (H : AHeap) : Prop := setAttrW ov n v H (k r)
noncomputable def fAs2 (ov v : PV) (r : Slots) (k : Slots → AHeap → Prop) (iv : PV) (H : AHeap) : Prop := setItemW ov iv v H (k r)
noncomputable def fAs1 (i : TX) (v : PV) (r : Slots) (k : Slots → AHeap → Prop) (ov : PV) (H : AHeap) : Prop := i H (fAs2 ov v r k)
noncomputable def puts : List Nat → List PV → Slots → AHeap → (Slots → AHeap → Prop) → Prop
  | [], [], r, H, k => k r H
  | i :: is, v :: vs, r, H, k => puts is vs (r.put i v) H k
  | _, _, _, _, _ => False
noncomputable def XAs : RA → PV → Slots → AHeap → (Slots → AHeap → Prop) → Prop
  | .loc i, v, r, H, k => k (r.put i v) H
  | .attr o n, v, r, H, k => XE G L o r H (fAa n v r k)
  | .sub o i, v, r, H, k => XE G L o r H (fAs1 (XE G L i r) v r k)
  | .locs is, v, r, H, k => match v with
    | .tup vs => puts is vs r H k
    | _ => False
  | .la i o n, v, r, H, k => match v with
    | .tup [a, b] => XE G L o (r.put i a) H (fAa n b (r.put i a) k)
    | _ => False
noncomputable def fRet (r : Slots) (k : KF) (v : PV) (H : AHeap) : Prop := k (.ret v) r H
noncomputable def fExp (r : Slots) (k : KF) (v : PV) (H : AHeap) : Prop := k .next r H
noncomputable def fNext (k : KF) (r : Slots) (H : AHeap) : Prop := k .next r H
noncomputable def fAsg (t : RA) (r : Slots) (k : KF) (v : PV) (H : AHeap) : Prop := XAs G L t v r H (fNext k)
noncomputable def fBack (I : Nat → Slots → AHeap → Prop) (n : Nat) (k : KF) (fl : Fl) (r : Slots) (H : AHeap) : Prop := match fl with
  | .next => ∃ n', n' < n ∧ I n' r H
  | .cont => ∃ n', n' < n ∧ I n' r H
  | .brk => k .next r H
  | .ret v => k (.ret v) r H
noncomputable def fWh (a : Slots → AHeap → KF → Prop) (r : Slots) (I : Nat → Slots → AHeap → Prop) (n : Nat) (k : KF) (c : Bool) (H : AHeap) : Prop := Br c (a r H (fBack I n k)) (k .next r H)
noncomputable def XForF (step : PV → Slots → AHeap → KF → Prop) (src : Option (Addr × AObj)) (K : KF) : List PV → Slots → AHeap → Prop
  | [], r, H => K .next r H
  | x :: xs, r, H => step x r H fun fl r' H' => match fl with
    | .next => srcOk src H' ∧ XForF step src K xs r' H'
    | .cont => srcOk src H' ∧ XForF step src K xs r' H'
    | .brk => K .next r' H'
    | .ret v => K (.ret v) r' H'
noncomputable def fSt2 (a : Slots → AHeap → KF → Prop) (k : KF) (r : Slots) (H : AHeap) : Prop := a r H k
noncomputable def fStep (t : RA) (a : Slots → AHeap → KF → Prop) (x : PV) (r : Slots) (H : AHeap) (k : KF) : Prop := XAs G L t x r H (fSt2 a k)
noncomputable def fFor (t : RA) (a : Slots → AHeap → KF → Prop) (r : Slots) (k : KF) (iv : PV) (H : AHeap) : Prop := Its iv H fun xs src => XForF (fStep G L t a) src k xs r H
noncomputable def fThen (a : Slots → AHeap → KF → Prop) (k : KF) (fl : Fl) (r : Slots) (H : AHeap) : Prop := match fl with
  | .next => a r H k
  | .brk => k .brk r H
  | .cont => k .cont r H
  | .ret v => k (.ret v) r H
noncomputable def fIfS (a b : Slots → AHeap → KF → Prop) (r : Slots) (k : KF) (c : Bool) (H : AHeap) : Prop := Br c (a r H k) (b r H k)
structure Wh (t : Slots → TXT) (a : Slots → AHeap → KF → Prop) (r : Slots) (H : AHeap) (k : KF) : Prop where
  go : ∃ I : Nat → Slots → AHeap → Prop, (∃ n, I n r H) ∧ ∀ n r' H', I n r' H' → t r' H' (fWh a r' I n k)
mutual
noncomputable def XS : RS → Slots → AHeap → KF → Prop
  | .ret e, r, H, k => XE G L e r H (fRet r k)
  | .pass, r, H, k => k .next r H
  | .cont, r, H, k => k .cont r H
  | .brk, r, H, k => k .brk r H
  | .expr e, r, H, k => XE G L e r H (fExp r k)
  | .asg t e, r, H, k => XE G L e r H (fAsg G L t r k)
  | .ite t a b, r, H, k => XT G L t r H (fIfS (XSs a) (XSs b) r k)
  | .wh t a, r, H, k => Wh (XT G L t) (XSs a) r H k
  | .fr t it a, r, H, k => XE G L it r H (fFor G L t (XSs a) r k)
  | .tr a, r, H, k => XSs a r H k
  | .bad, _, _, _ => False
noncomputable def XSs : RSs → Slots → AHeap → KF → Prop
  | .nil, r, H, k => k .next r H
  | .cons s ss, r, H, k => XS s r H (fThen (XSs ss) k)
end
end

-- R2

/-! the resolver -/
abbrev SEnv := List (Str × Nat)
noncomputable def o1 {α β : Type} (a : Option α) (f : α → β) : Option β := match a with
  | some x => some (f x)
  | none => none
noncomputable def o2 {α β γ : Type} (a : Option α) (b : Option β) (f : α → β → γ) : Option γ := match a with
  | some x => o1 b (f x)
  | none => none
noncomputable def o3 {α β γ δ : Type} (a : Option α) (b : Option β) (c : Option γ) (f : α → β → γ → δ) : Option δ := match a with
  | some x => o2 b c (f x)
  | none => none
noncomputable def og {α : Type} (c : Bool) (a : Option α) : Option α := match c with
  | true => a
  | false => none
theorem o1_inv {α β : Type} {a : Option α} {f : α → β} {c : β} (h : o1 a f = some c) : ∃ x, a = some x ∧ c = f x := by
  cases a with
  | none => cases h
  | some x => exact ⟨x, rfl, (Option.some.inj h).symm⟩
theorem o2_inv {α β γ : Type} {a : Option α} {b : Option β} {f : α → β → γ} {c : γ} (h : o2 a b f = some c) : ∃ x y, a = some x ∧ b = some y ∧ c = f x y := by
  cases a with
  | none => cases h
  | some x => obtain ⟨y, e1, e2⟩ := o1_inv h; exact ⟨x, y, rfl, e1, e2⟩
theorem o3_inv {α β γ δ : Type} {a : Option α} {b : Option β} {c : Option γ} {f : α → β → γ → δ} {d : δ} (h : o3 a b c f = some d) : ∃ x y z, a = some x ∧ b = some y ∧ c = some z ∧ d = f x y z := by
  cases a with
  | none => cases h
  | some x => obtain ⟨y, z, e1, e2, e3⟩ := o2_inv h; exact ⟨x, y, z, rfl, e1, e2, e3⟩
theorem og_inv {α : Type} {c : Bool} {a : Option α} {x : α} (h : og c a = some x) : c = true ∧ a = some x := by
  cases c with
  | false => cases h
  | true => exact ⟨rfl, h⟩

noncomputable def resL (f : Expr → Option RE) : List Expr → Option RL
  | [] => some .nil
  | e :: es => o2 (f e) (resL f es) .cons
noncomputable def resTL (f : Expr → Option RT) : List Expr → Option RTL
  | [] => some .nil
  | e :: es => o2 (f e) (resTL f es) .cons
noncomputable def resO (f : Expr → Option RE) : Option Expr → Option RE
  | none => some (.val .none)
  | some e => f e
/-- the names that a comprehension sees -/
noncomputable def seen (env : SEnv) (scope : Scope) : SEnv := env.filter fun p => scope.names.lookup p.1 == some .free
noncomputable def envOk (env : SEnv) : Bool := decide ((env.map (·.2)).Nodup)
/-- the place of the next slot -/
noncomputable def below (env : SEnv) (n : Nat) : Bool := env.all fun p => Nat.ble (p.2 + 1) n

noncomputable def nameOf : Expr → Option Str
  | .Name t _ => some t
  | _ => none
/-- may t be a comprehension's own name -/
noncomputable def ownOk (env : SEnv) (sc : Scope) (t : Str) : Bool := isLoc sc t && (env.lookup t).isNone
noncomputable def resC (s : Nat) (env : SEnv) (sc scope : Scope) (f : Nat → SEnv → Scope → Expr → Option RE) (ft : Nat → SEnv → Scope → Expr → Option RT) (elt : Expr) : List Comprehension → Option RE
  | [⟨t, it, [], a⟩] => match nameOf t with
    | some t => og ((a == 0) && compGuard sc it [] scope && ownOk (seen env scope) (relabelS scope sc) t && below env s) (o2 (f s env sc it) (f (s + 1) ((t, s) :: seen env scope) (relabelS scope sc) elt) fun i x => .comp1 x s i)
    | none => none
  | [⟨t, it, [], a⟩, ⟨t', it', [c], a'⟩] => match nameOf t, nameOf t' with
    | some t, some u => og ((a == 0) && compGuard sc it [⟨t', it', [c], a'⟩] scope && ownOk (seen env scope) (relabelS scope sc) t && below env s)
        (og (ownOk ((t, s) :: seen env scope) (relabelS scope sc) u && !(t == u)) (o2 (f s env sc it) (o3 (f (s + 2) ((u, s + 1) :: (t, s) :: seen env scope) (relabelS scope sc) elt) (f (s + 2) ((u, s + 1) :: (t, s) :: seen env scope) (relabelS scope sc) it') (ft (s + 2) ((u, s + 1) :: (t, s) :: seen env scope) (relabelS scope sc) c) fun x y z => (x, y, z)) fun i y => .comp2 y.1 s i (s + 1) y.2.1 y.2.2))
    | _, _ => none
  | _ => none

mutual
noncomputable def resE : Nat → Nat → SEnv → Scope → Expr → Option RE
  | 0, _, _, _, _ => none
  | n + 1, s, env, sc, e => match e with
    | .Constant c _ _ => o1 (constPV c) .val
    | .Name x _ => og (!(x == ("__debug__" : Str))) (match isGlb sc x with
      | true => o1 (gl0 x) .val
      | false => o1 (env.lookup x) .loc)
    | .BinOp a op b _ => o2 (resE n s env sc a) (resE n s env sc b) (.bin op)
    | .UnaryOp .USub a _ => o1 (resE n s env sc a) .neg
    | .UnaryOp .Not a _ => o1 (resE n s env sc a) .nt
    | .BoolOp op vs _ => o1 (resL (resE n s env sc) vs) (.bool op)
    | .Compare a [op] [b] _ => og (notSet b) (o2 (resE n s env sc a) (resE n s env sc b) (.cmp1 op))
    | .Compare a [op, op'] [b, c] _ => og (notSet b && notSet c) (o3 (resE n s env sc a) (resE n s env sc b) (resE n s env sc c) (.cmp2 op op'))
    | .IfExp t a b _ => o3 (resT n s env sc t) (resE n s env sc a) (resE n s env sc b) .ife
    | .Call f args kws pos => match f with
      | .Attribute o name apos => og (kws.isEmpty && (baseOk o && (apos.endLine == pos.line) && okArgs args)) (o2 (resE n s env sc o) (resL (resE n s env sc) args) fun x y => .meth x name y)
      | .Name f _ => og (kws.isEmpty && okArgs args && (!(f == ("__debug__" : Str))) && isGlb sc f) (o2 (gl0 f) (resL (resE n s env sc) args) .call)
      | _ => none
    | .Attribute o name _ => og (baseOk o) (o1 (resE n s env sc o) fun x => .attr x name)
    | .Subscript o i _ => match i with
      | .Slice lo hi st _ => o2 (resE n s env sc o) (o3 (resO (resE n s env sc) lo) (resO (resE n s env sc) hi) (resO (resE n s env sc) st) fun x y z => (x, y, z)) fun x y => .slice x y.1 y.2.1 y.2.2
      | i => og (notSlice i) (o2 (resE n s env sc o) (resE n s env sc i) .sub)
    | .List es _ => og (okArgs es) (o1 (resL (resE n s env sc) es) .list)
    | .Tuple es _ _ => og (okArgs es) (o1 (resL (resE n s env sc) es) .tup)
    | .Dict [] [] _ => some .dict0
    | .Dict [some a] [b] _ => o2 (resE n s env sc a) (resE n s env sc b) .dict1
    | .ListComp elt gs scope _ => resC s env sc scope (resE n) (resT n) elt gs
    | _ => none
noncomputable def resT : Nat → Nat → SEnv → Scope → Expr → Option RT
  | 0, _, _, _, _ => none
  | n + 1, s, env, sc, e => match e with
    | .UnaryOp .Not a _ => o1 (resT n s env sc a) .nt
    | .BoolOp op vs _ => o1 (resTL (resT n s env sc) vs) (.all op)
    | .Compare a [op] [b] _ => og (notSet b) (o2 (resE n s env sc a) (resE n s env sc b) (.cmp1 op))
    | .Compare a [op, op'] [b, c] _ => og (notSet b && notSet c) (o3 (resE n s env sc a) (resE n s env sc b) (resE n s env sc c) (.cmp2 op op'))
    | .IfExp t a b _ => o3 (resT n s env sc t) (resT n s env sc a) (resT n s env sc b) .ife
    | e => og (plainTest e) (o1 (resE n s env sc e) .tr)
end
noncomputable def resNames (env : SEnv) (sc : Scope) : List Expr → Option (List Nat)
  | [] => some []
  | .Name x _ :: r => og (isLoc sc x || isCel sc x) (o2 (env.lookup x) (resNames env sc r) (· :: ·))
  | _ => none
noncomputable def attrOf : Expr → Option (Expr × Str)
  | .Attribute o m _ => some (o, m)
  | _ => none
noncomputable def resTup (n : Nat) (s : Nat) (env : SEnv) (sc : Scope) : List Expr → Option RA
  | [a, b] => match attrOf b with
    | some (o, m) => (match nameOf a with
      | some x => og (isLoc sc x || isCel sc x) (o2 (env.lookup x) (resE n s env sc o) fun i y => .la i y m)
      | none => none)
    | none => o1 (resNames env sc [a, b]) .locs
  | ts => o1 (resNames env sc ts) .locs
noncomputable def resA (n : Nat) (s : Nat) (env : SEnv) (sc : Scope) : Expr → Option RA
  | .Name x _ => og (isLoc sc x || isCel sc x) (o1 (env.lookup x) .loc)
  | .Attribute o name _ => o1 (resE n s env sc o) fun x => .attr x name
  | .Subscript o i _ => og (notSlice i) (o2 (resE n s env sc o) (resE n s env sc i) .sub)
  | .Tuple ts _ _ => resTup n s env sc ts
  | _ => none
mutual
noncomputable def resS : Nat → Nat → SEnv → Scope → Stmt → RS
  | 0, _, _, _, _ => .bad
  | n + 1, s, env, sc, t => match t with
    | .Return (some e) _ => ((resE n s env sc e).map .ret).getD .bad
    | .Return none _ => .ret (.val .none)
    | .Pass _ => .pass
    | .Continue _ => .cont
    | .Break _ => .brk
    | .Expr e _ => ((og (notComp e) (resE n s env sc e)).map .expr).getD .bad
    | .Assign [t] e _ => (og (swapFree t e && (notComp e || isName t)) (o2 (resA n s env sc t) (resE n s env sc e) .asg)).getD .bad
    | .If t a b _ => (o1 (resT n s env sc t) fun x => .ite x (resSs n s env sc a) (resSs n s env sc b)).getD .bad
    | .While t a [] _ => (o1 (resT n s env sc t) fun x => .wh x (resSs n s env sc a)).getD .bad
    | .For t it a [] _ => (og (notSet it) (o2 (resA n s env sc t) (resE n s env sc it) fun x y => .fr x y (resSs n s env sc a))).getD .bad
    | .Try a _ [] [] _ => .tr (resSs n s env sc a)
    | _ => .bad
noncomputable def resSs : Nat → Nat → SEnv → Scope → List Stmt → RSs
  | 0, _, _, _, _ => .cons .bad .nil
  | _ + 1, _, _, _, [] => .nil
  | n + 1, s, env, sc, t :: ts => .cons (resS n s env sc t) (resSs n s env sc ts)
end
/-- the slots of a function -/
noncomputable def slots (sc : Scope) : SEnv := (sc.names.filter fun p => p.2 == .local || p.2 == .cell).zipIdx.map fun p => (p.1.1, p.2)
noncomputable def resF (sc : Scope) (b : List Stmt) : RSs := resSs 200 (slots sc).length (slots sc) sc b

-- R3

/-- the locals that the slots are -/
noncomputable def mOf (se : SEnv) (r : Slots) : Loc := fun x => match se.lookup x with
  | some i => r i
  | none => none

abbrev Ctx.M (G : Ctx) : Model := model G.prog G.w
abbrev HandG (G : Ctx) (s : Shared) (H : AHeap) (k : KV) (Q : Value → Shared → Prop) : Prop := Hand G.prog G.w G.B NoX s H k Q
abbrev HandT (G : Ctx) (s : Shared) (H : AHeap) (k : KB) (Q : Bool → Shared → Prop) : Prop := HandB G.prog G.w G.B NoX s H k Q

/-- where an evaluation stands -/
structure St (G : Ctx) (L : Nat) (sc : Scope) (se : SEnv) (env : Env) (r : Slots) (A : Around) (H : AHeap) (h : Heap) : Prop where
  hl : L ≤ 60
  hA : AOk L A
  N : EnvOk sc env
  F : Fm G.B env (mOf se r) H h
  W : WF G.prog G.w G.B H h
  inj : envOk se = true

section
variable {G : Ctx} {L : Nat} {sc : Scope} {se : SEnv} {env : Env} {r : Slots} {A : Around} {H H' : AHeap} {s s' : Shared} {h' : Heap}
theorem St.step (S : St G L sc se env r A H s.heap) (W' : WF G.prog G.w G.B H' h') (st : Step NoX H s.heap H' h') : St G L sc se env r A H' h' := ⟨S.hl, S.hA, S.N, S.F.step S.W st, W', S.inj⟩
end

section
variable (G : Ctx) (L : Nat) (sc : Scope) (se : SEnv)
/-- an expression does what its tree says -/
noncomputable def EO (e : Expr) (x : RE) : Prop := ∀ ⦃env : Env⦄ ⦃r : Slots⦄ ⦃H : AHeap⦄ ⦃k : KV⦄ ⦃A : Around⦄ ⦃s : Shared⦄ ⦃E Q : Value → Shared → Prop⦄, St G L sc se env r A H s.heap → XE G L x r H k → HandG G s H k Q → wpAny G.M A (eval e env) Q E s
noncomputable def TO (e : Expr) (x : RT) : Prop := ∀ ⦃env : Env⦄ ⦃r : Slots⦄ ⦃H : AHeap⦄ ⦃k : KB⦄ ⦃A : Around⦄ ⦃s : Shared⦄ ⦃E : Value → Shared → Prop⦄ ⦃Q : Bool → Shared → Prop⦄, St G L sc se env r A H s.heap → XT G L x r H k → HandT G s H k Q → wpAny G.M A (isTrue e env (eval e env)) Q E s
/-- a list of expressions -/
inductive EOs : List Expr → RL → Prop
  | nil : EOs [] .nil
  | cons {e es x xs} : EO G L sc se e x → EOs es xs → EOs (e :: es) (.cons x xs)
inductive TOs : List Expr → RTL → Prop
  | nil : TOs [] .nil
  | cons {e es x xs} : TO G L sc se e x → TOs es xs → TOs (e :: es) (.cons x xs)
end

section
variable {G : Ctx} {L : Nat} {sc : Scope} {se : SEnv}

theorem name_eo {x : Str} {i : Nat} {pos : Pos} (d : (x == ("__debug__" : Str)) = false) (g : isGlb sc x = false) (e : se.lookup x = some i) : EO G L sc se (.Name x pos) (.loc i) := by
  intro env r H k A s E Q S h P
  refine name_ok G.ok S.N S.F S.W P d ?_
  unfold nameW
  rw [g]
  show (match mOf se r x with | some v => k v H | none => False)
  have : mOf se r x = r i := by unfold mOf; rw [e]
  rw [this]
  exact h
theorem glob_eo {x : Str} {v : PV} {pos : Pos} (d : (x == ("__debug__" : Str)) = false) (g : isGlb sc x = true) (e : gl0 x = some v) : EO G L sc se (.Name x pos) (.val v) := by
  intro env r H k A s E Q S h P
  refine name_ok G.ok S.N S.F S.W P d ?_
  unfold nameW
  rw [g, e]
  exact h
theorem const_eo {c : Const} {v : PV} {n : Nat} {pos : Pos} (e : constPV c = some v) : EO G L sc se (.Constant c n pos) (.val v) := by
  intro env r H k A s E Q S h P
  exact const_ok S.W P e h
theorem bin_eo {a b : Expr} {x y : RE} {op : Operator} {pos : Pos} (ha : EO G L sc se a x) (hb : EO G L sc se b y) : EO G L sc se (.BinOp a op b pos) (.bin op x y) := by
  intro env r H k A s E Q S h P
  refine wpAny_BinOp (ha S h fun u uv H₁ s₁ sm₁ st₁ W₁ vu h₁ => ?_)
  refine hb (S.step W₁ st₁) h₁ fun v vv H₂ s₂ sm₂ st₂ W₂ vv' h₂ => ?_
  exact bin_ok W₂ (vu.step W₁ st₂) vv' ((P.after sm₁ st₁).after sm₂ st₂) h₂
theorem neg_eo {a : Expr} {x : RE} {pos : Pos} (ha : EO G L sc se a x) : EO G L sc se (.UnaryOp .USub a pos) (.neg x) := by
  intro env r H k A s E Q S h P
  refine wpAny_UnaryOp (ha S h fun u uv H₁ s₁ sm₁ st₁ W₁ vu h₁ => ?_)
  cases u with
  | int i =>
    obtain ⟨t, rfl⟩ := V_int.mp vu
    exact PySem.P.neg_int ((P.after sm₁ st₁).same W₁ (V_int.mpr ⟨_, rfl⟩) h₁)
  | _ => exact h₁.elim
theorem nt_eo {a : Expr} {x : RE} {pos : Pos} (ha : EO G L sc se a x) : EO G L sc se (.UnaryOp .Not a pos) (.nt x) := by
  intro env r H k A s E Q S h P
  refine wpAny_UnaryOp (ha S h fun u uv H₁ s₁ sm₁ st₁ W₁ vu h₁ => ?_)
  refine not_value (truth_ok W₁ vu (fun c H' s' a b d e => ?_) h₁)
  exact ((P.after sm₁ st₁).after a b).here d (V_bool.mpr rfl) e
theorem ife_eo {t a b : Expr} {z : RT} {x y : RE} {pos : Pos} (ht : TO G L sc se t z) (ha : EO G L sc se a x) (hb : EO G L sc se b y) : EO G L sc se (.IfExp t a b pos) (.ife z x y) := by
  intro env r H k A s E Q S h P
  refine wpAny_IfExp (ht S h fun c H₁ s₁ sm₁ st₁ W₁ h₁ => ?_)
  cases c with
  | true => exact ha (S.step W₁ st₁) (h₁.yes rfl) (P.after sm₁ st₁)
  | false => exact hb (S.step W₁ st₁) (h₁.no rfl) (P.after sm₁ st₁)
end

-- R4

section
variable {G : Ctx} {L : Nat} {sc : Scope} {se : SEnv}

theorem bool_go {op : BoolOp} {pos : Pos} {es : List Expr} {xs : RL} (he : EOs G L sc se es xs) : ∀ {env : Env} {r : Slots} {H : AHeap} {k : KV} {A : Around} {s : Shared} {E Q : Value → Shared → Prop}, St G L sc se env r A H s.heap →
    XB G L xs op r H k → HandG G s H k Q → wpAny G.M A (boolOp pos op (evalEach es env)) Q E s := by
  induction he with
  | nil => intro env r H k A s E Q S h P; exact h.elim
  | @cons e es x xs ha hr ih =>
    intro env r H k A s E Q S h P
    cases hr with
    | nil => exact ha S h P
    | @cons e' es' x' xs' hb hc =>
      show wpAny _ _ (do
        let v ← eval e env
        standAt pos
        let t ← holding [v] (truthy v)
        match op, t with
        | .And, false | .Or, true => pure v
        | _, _ => boolOp pos op (evalEach (e' :: es') env)) Q E s
      refine wpAny_bind (ha S h fun u uv H₁ s₁ sm₁ st₁ W₁ vu h₁ => ?_)
      have h₁ : truthW u H₁ (fBo2 op u (XB G L (.cons x' xs') op r) k) := h₁
      refine wpAny_bind (wpAny_standAt (wpAny_bind (wpAny_holding (truth_ok W₁ vu (fun c H₂ s₂ sm₂ st₂ W₂ h₂ => ?_) h₁))))
      have P₂ := (P.after sm₁ st₁).after sm₂ st₂
      have S₂ := (S.step W₁ st₁).step W₂ st₂
      cases op <;> cases c
      · exact wpAny_pure (P₂.here W₂ (vu.step W₁ st₂) (h₂.no rfl))
      · exact ih S₂ (h₂.yes rfl) P₂
      · exact ih S₂ (h₂.no rfl) P₂
      · exact wpAny_pure (P₂.here W₂ (vu.step W₁ st₂) (h₂.yes rfl))
theorem bool_eo {op : BoolOp} {pos : Pos} {es : List Expr} {xs : RL} (he : EOs G L sc se es xs) : EO G L sc se (.BoolOp op es pos) (.bool op xs) := by
  intro env r H k A s E Q S h P
  exact bool_go (pos := pos) he S h P

theorem cmp1_eo {op : CmpOp} {a b : Expr} {x y : RE} {pos : Pos} (c : notSet b = true) (ha : EO G L sc se a x) (hb : EO G L sc se b y) : EO G L sc se (.Compare a [op] [b] pos) (.cmp1 op x y) := by
  intro env r H k A s E Q S h P
  rw [arm_eval_Compare, markedEach_of_false _ _ _ (lastMarks_no (by simp [c]))]
  refine wpAny_bind (ha S h fun u uv H₁ s₁ sm₁ st₁ W₁ hu h₁ => ?_)
  refine chain_last (hb (S.step W₁ st₁) h₁ fun v vv H₂ s₂ sm₂ st₂ W₂ hv h₂ => ?_)
  exact cmpH_ok G.ok.G S.hA.handled (S.hA.hU S.hl) W₂ (hu.step W₁ st₂) hv ((P.after sm₁ st₁).after sm₂ st₂) h₂
theorem cmp2_eo {op op' : CmpOp} {a b c : Expr} {x y z : RE} {pos : Pos} (c1 : notSet b = true) (c2 : notSet c = true) (ha : EO G L sc se a x) (hb : EO G L sc se b y) (hc : EO G L sc se c z) : EO G L sc se (.Compare a [op, op'] [b, c] pos) (.cmp2 op op' x y z) := by
  intro env r H k A s E Q S h P
  rw [arm_eval_Compare, markedEach_of_false _ _ _ (lastMarks_no (by simp [c1, c2]))]
  refine wpAny_bind (ha S h fun u uv H₁ s₁ sm₁ st₁ W₁ hu h₁ => ?_)
  refine chain_link (hb (S.step W₁ st₁) h₁ fun v vv H₂ s₂ sm₂ st₂ W₂ hv h₂ => ?_)
  refine cmpH_ok G.ok.G S.hA.handled (S.hA.hU S.hl) W₂ (hu.step W₁ st₂) hv (fun q qv H₃ s₃ sm₃ st₃ W₃ hq h₃ => ?_) h₂
  refine truth_ok W₃ hq (fun t H₄ s₄ sm₄ st₄ W₄ h₄ => ?_) h₃
  have P₄ := (((P.after sm₁ st₁).after sm₂ st₂).after sm₃ st₃).after sm₄ st₄
  cases t with
  | true =>
    refine chain_last (hc ((((S.step W₁ st₁).step W₂ st₂).step W₃ st₃).step W₄ st₄) (h₄.yes rfl) fun v' vv' H₅ s₅ sm₅ st₅ W₅ hv' h₅ => ?_)
    exact cmpH_ok G.ok.G S.hA.handled (S.hA.hU S.hl) W₅ (((hv.step W₂ st₃).step W₃ st₄).step W₄ st₅) hv' (P₄.after sm₅ st₅) h₅
  | false => exact P₄.here W₄ (hq.step W₃ st₄) (h₄.no rfl)

/-! tests -/
theorem nt_to {a : Expr} {x : RT} {pos : Pos} (ha : TO G L sc se a x) : TO G L sc se (.UnaryOp .Not a pos) (.nt x) := by
  intro env r H k A s E Q S h P
  exact wpAny_isTrue_Not (ha S h fun c H₁ s₁ a b d e => P _ _ _ a b d e)
theorem all_go {op : BoolOp} {es : List Expr} {xs : RTL} (he : TOs G L sc se es xs) : ∀ {env : Env} {r : Slots} {H : AHeap} {k : KB} {A : Around} {s : Shared} {E : Value → Shared → Prop} {Q : Bool → Shared → Prop}, St G L sc se env r A H s.heap →
    XA G L xs op r H k → HandT G s H k Q → wpAny G.M A (allTrue op es env) Q E s := by
  induction he with
  | nil =>
    intro env r H k A s E Q S h P
    rw [arm_allTrue_nil]
    cases op <;> exact wpAny_pure (P.same (t := s.toks) S.W h)
  | @cons e es x xs ha hr ih =>
    intro env r H k A s E Q S h P
    cases op
    · refine wpAny_allTrue_And_cons (ha S h fun c H₁ s₁ sm₁ st₁ W₁ h₁ => ?_)
      cases c with
      | true => exact ih (S.step W₁ st₁) (h₁.yes rfl) (P.after sm₁ st₁)
      | false => exact P _ _ _ sm₁ st₁ W₁ (h₁.no rfl)
    · refine wpAny_allTrue_Or_cons (ha S h fun c H₁ s₁ sm₁ st₁ W₁ h₁ => ?_)
      cases c with
      | true => exact P _ _ _ sm₁ st₁ W₁ (h₁.yes rfl)
      | false => exact ih (S.step W₁ st₁) (h₁.no rfl) (P.after sm₁ st₁)
theorem all_to {op : BoolOp} {es : List Expr} {xs : RTL} {pos : Pos} (he : TOs G L sc se es xs) : TO G L sc se (.BoolOp op es pos) (.all op xs) := by
  intro env r H k A s E Q S h P
  exact wpAny_isTrue_BoolOp (all_go he S h P)
theorem cmp1_to {op : CmpOp} {a b : Expr} {x y : RE} {pos : Pos} (c : notSet b = true) (ha : EO G L sc se a x) (hb : EO G L sc se b y) : TO G L sc se (.Compare a [op] [b] pos) (.cmp1 op x y) := by
  intro env r H k A s E Q S h P
  rw [arm_isTrue_Compare, markedEach_of_false _ _ _ (lastMarks_no (by simp [c]))]
  refine wpAny_bind (ha S h fun u uv H₁ s₁ sm₁ st₁ W₁ hu h₁ => ?_)
  refine test_last (hb (S.step W₁ st₁) h₁ fun v vv H₂ s₂ sm₂ st₂ W₂ hv h₂ => ?_)
  refine cmpH_ok G.ok.G S.hA.handled (S.hA.hU S.hl) W₂ (hu.step W₁ st₂) hv (fun q qv H₃ s₃ sm₃ st₃ W₃ hq h₃ => ?_) h₂
  exact truth_ok W₃ hq (((P.after sm₁ st₁).after sm₂ st₂).after sm₃ st₃) h₃
theorem cmp2_to {op op' : CmpOp} {a b c : Expr} {x y z : RE} {pos : Pos} (c1 : notSet b = true) (c2 : notSet c = true) (ha : EO G L sc se a x) (hb : EO G L sc se b y) (hc : EO G L sc se c z) : TO G L sc se (.Compare a [op, op'] [b, c] pos) (.cmp2 op op' x y z) := by
  intro env r H k A s E Q S h P
  rw [arm_isTrue_Compare, markedEach_of_false _ _ _ (lastMarks_no (by simp [c1, c2]))]
  refine wpAny_bind (ha S h fun u uv H₁ s₁ sm₁ st₁ W₁ hu h₁ => ?_)
  refine test_link (hb (S.step W₁ st₁) h₁ fun v vv H₂ s₂ sm₂ st₂ W₂ hv h₂ => ?_)
  refine cmpH_ok G.ok.G S.hA.handled (S.hA.hU S.hl) W₂ (hu.step W₁ st₂) hv (fun q qv H₃ s₃ sm₃ st₃ W₃ hq h₃ => ?_) h₂
  refine truth_ok W₃ hq (fun t H₄ s₄ sm₄ st₄ W₄ h₄ => ?_) h₃
  have P₄ := (((P.after sm₁ st₁).after sm₂ st₂).after sm₃ st₃).after sm₄ st₄
  cases t with
  | true =>
    refine test_last (hc ((((S.step W₁ st₁).step W₂ st₂).step W₃ st₃).step W₄ st₄) (h₄.yes rfl) fun v' vv' H₅ s₅ sm₅ st₅ W₅ hv' h₅ => ?_)
    refine cmpH_ok G.ok.G S.hA.handled (S.hA.hU S.hl) W₅ (((hv.step W₂ st₃).step W₃ st₄).step W₄ st₅) hv' (fun q qv H₆ s₆ sm₆ st₆ W₆ hq h₆ => ?_) h₅
    exact truth_ok W₆ hq ((P₄.after sm₅ st₅).after sm₆ st₆) h₆
  | false => exact P₄.same (t := s₄.toks) W₄ (h₄.no rfl)
theorem ife_to {t a b : Expr} {z x y : RT} {pos : Pos} (ht : TO G L sc se t z) (ha : TO G L sc se a x) (hb : TO G L sc se b y) : TO G L sc se (.IfExp t a b pos) (.ife z x y) := by
  intro env r H k A s E Q S h P
  rw [arm_isTrue_IfExp]
  refine wpAny_bind (ht S h fun c H₁ s₁ sm₁ st₁ W₁ h₁ => ?_)
  cases c with
  | true => exact ha (S.step W₁ st₁) (h₁.yes rfl) (P.after sm₁ st₁)
  | false => exact hb (S.step W₁ st₁) (h₁.no rfl) (P.after sm₁ st₁)
theorem tr_to {e : Expr} {x : RE} (he : EO G L sc se e x) (hp : plainTest e = true) : TO G L sc se e (.tr x) := by
  intro env r H k A s E Q S h P
  refine plain_tok ?_ S.hA S.W (he S h fun p v H₁ s₁ sm st W₁ hv h₁ => ⟨p, H₁, sm, st, W₁, hv, h₁⟩) P
  intro whole
  cases e with
  | UnaryOp op a p => cases op <;> first | rfl | exact absurd hp Bool.false_ne_true
  | BoolOp | IfExp | Compare => exact absurd hp Bool.false_ne_true
  | _ => rfl
end

-- R5

section
variable {G : Ctx} {L : Nat} {sc : Scope} {se : SEnv}

theorem items_go {pos : Pos} {es : List Expr} {xs : RL} (he : EOs G L sc se es xs) : es.all notStar = true → ∀ {env : Env} {r : Slots} {H : AHeap} {k : List PV → AHeap → Prop} {A : Around} {s : Shared} {E : Value → Shared → Prop} {Q : List Value → Shared → Prop}, St G L sc se env r A H s.heap →
    XLs G L xs r H k → (∀ ps vs H' s', Same s s' → Step NoX H s.heap H' s'.heap → WF G.prog G.w G.B H' s'.heap → VL G.B s'.heap ps vs → vs.length = es.length → k ps H' → Q vs s') →
    wpAny G.M A (spliced (backTo pos (starEach es env))) Q E s := by
  induction he with
  | nil =>
    intro _ env r H k A s E Q S h P
    exact Calls.spliced_nil (P _ _ _ _ (.refl _) (.refl _ _ _) S.W (VL_nil.mpr rfl) rfl h)
  | @cons e es x xs ha hr ih =>
    intro hn env r H k A s E Q S h P
    obtain ⟨n1, n2⟩ := Bool.and_eq_true_iff.mp hn
    rw [starEach_plain n1]
    show wpAny G.M A (spliced ((false, eval e env) :: backTo pos (starEach es env))) Q E s
    refine Calls.spliced_cons (ha S h fun p v H₁ s₁ sm₁ st₁ W₁ hv h₁ => ?_)
    refine ih n2 (S.step W₁ st₁) h₁ fun ps vs H₂ s₂ sm₂ st₂ W₂ hvs hn h₂ => ?_
    exact P _ _ _ _ (sm₁.trans sm₂) (st₁.trans st₂) W₂ (VL_cons.mpr ⟨v, vs, rfl, hv.step W₁ st₂, hvs⟩) (by rw [List.length_cons, List.length_cons, hn]) h₂
theorem few {n : Nat} (h : n < 20) : n ≤ sizeLine := by rw [sizeLine_eq]; omega
theorem list_eo {es : List Expr} {xs : RL} {pos : Pos} (c : okArgs es = true) (he : EOs G L sc se es xs) : EO G L sc se (.List es pos) (.list xs) := by
  intro env r H k A s E Q S h P
  obtain ⟨c1, c2⟩ := okArgs_iff c
  refine wpAny_List_spliced (items_go he c2 S h fun ps vs H₁ s₁ sm st W₁ hvs hn h₁ => ⟨by rw [hn]; exact few c1, ?_⟩)
  exact (P.after sm st).new W₁ h₁ ⟨vs, 0, push_new _, hvs.push _⟩
theorem tup_eo {es : List Expr} {xs : RL} {n : Nat} {pos : Pos} (c : okArgs es = true) (he : EOs G L sc se es xs) : EO G L sc se (.Tuple es n pos) (.tup xs) := by
  intro env r H k A s E Q S h P
  obtain ⟨c1, c2⟩ := okArgs_iff c
  refine wpAny_Tuple_spliced (items_go he c2 S h fun ps vs H₁ s₁ sm st W₁ hvs hn h₁ => ⟨by rw [hn]; exact few c1, ?_⟩)
  exact (P.after sm st) _ _ _ _ ⟨rfl, rfl, rfl⟩ (Step.push _ _ _ _) (W₁.push _) (V_tup.mpr ⟨_, vs, rfl, ⟨_, push_new _, rfl, 0, rfl⟩, hvs.push _⟩) h₁

theorem callWith_go {pos : Pos} {f : PV} {fv : Value} {first : List PV} {firstV : List Value} {es : List Expr} {xs : RL} (he : EOs G L sc se es xs) (ha : es.all notStar = true) {env : Env} {r : Slots} {H : AHeap} {k : KV} {K : List PV → AHeap → Prop} {A : Around} {s : Shared} {E Q : Value → Shared → Prop} (S : St G L sc se env r A H s.heap)
    (hf : V G.B s.heap f fv) (hfirst : VL G.B s.heap first firstV) (h : XLs G L xs r H K) (hK : ∀ vs H', K vs H' → CallX G L f (first ++ vs) H' k) (P : HandG G s H k Q) :
    wpAny G.M A (callWith pos fv firstV (backTo pos (starEach es env)) []) Q E s := by
  refine callWith_of (P := fun h => Keep G.prog G.w G.B fv ∧ ∀ b o, G.B.get? b = some o → h.get? b = some o) (by rw [backTo_plain ha]; rfl) (fun h x => x.1 h x.2) ?_
  have post : ∀ ps vs H' s', Same s s' → Step NoX H s.heap H' s'.heap → WF G.prog G.w G.B H' s'.heap → VL G.B s'.heap ps vs → vs.length = es.length → K ps H' →
      (Keep G.prog G.w G.B fv ∧ ∀ b o, G.B.get? b = some o → s'.heap.get? b = some o) ∧ wpAny G.M A (call fv (firstV ++ vs)) Q E s' := fun ps vs H' s' sm st W' hvs _ c =>
    ⟨⟨callee_ok (hf.step S.W st) (hK _ _ c).go W'.base, W'.base⟩, call_ok G.ok S.hA S.hl W' (hf.step S.W st) ((hfirst.step S.W st).append hvs) (P.after sm st) (hK _ _ c).go⟩
  cases he with
  | nil => exact evalArgs_nil3 (post [] [] H s (.refl _) (.refl _ _ _) S.W (VL_nil.mpr rfl) rfl h)
  | @cons e es x xs hb hc =>
    have q := items_go (pos := pos) (E := E) (.cons hb hc) ha S h post
    rw [starEach_plain (Bool.and_eq_true_iff.mp ha).1] at q ⊢
    exact Calls.evalArgs_plain q
theorem call_eo {f : Str} {v : PV} {p : Pos} {es : List Expr} {xs : RL} {pos : Pos} (c : okArgs es = true) (hf : EO G L sc se (.Name f p) (.val v)) (he : EOs G L sc se es xs) : EO G L sc se (.Call (.Name f p) es [] pos) (.call v xs) := by
  intro env r H k A s E Q S h P
  show wpAny _ _ (do callWith pos (← eval (.Name f p) env) [] (backTo pos (starEach es env)) (backToKw pos (keywordEach [] env))) Q E s
  refine wpAny_bind (hf (k := fun v' H' => v' = v ∧ H' = H) S ⟨rfl, rfl⟩ fun fv u H₁ s₁ sm st W₁ hv h₁ => ?_)
  obtain ⟨rfl, rfl⟩ := h₁
  exact callWith_go (first := []) he (okArgs_iff c).2 (S.step W₁ st) hv (VL_nil.mpr rfl) h (fun _ _ c => c) (P.after sm st)
theorem meth_eo {o : Expr} {x : RE} {name : Str} {apos pos : Pos} {es : List Expr} {xs : RL} (c : (baseOk o && (apos.endLine == pos.line) && okArgs es) = true) (ho : EO G L sc se o x) (he : EOs G L sc se es xs) : EO G L sc se (.Call (.Attribute o name apos) es [] pos) (.meth x name xs) := by
  intro env r H k A s E Q S h P
  obtain ⟨c0, c3⟩ := Bool.and_eq_true_iff.mp c
  obtain ⟨c1, c2⟩ := Bool.and_eq_true_iff.mp c0
  obtain ⟨c4, c5⟩ := okArgs_iff c3
  rw [arm_eval_Call, attributeBase_ok c1]
  refine wpAny_bind (ho S h fun ov v H₁ s₁ sm st W₁ hv h₁ => wpAny_bind (wpAny_standAt ?_))
  have h₁ : methX G L (methW ov name H₁) (XLs G L xs r) ov H₁ k := h₁
  cases q : methW ov name H₁ with
  | none => rw [q] at h₁; exact h₁.elim
  | some f =>
    rw [q] at h₁
    unfold methodCall
    have hform : methodCallForm (es.length + ([] : List Keyword).length) (backTo pos (starEach es env)) (backToKw pos (keywordEach [] env)) = true := by
      unfold methodCallForm
      rw [backTo_all c5]
      exact (show decide (es.length < 30) = true from decide_eq_true (Nat.lt_trans c4 (Nat.le_of_ble_eq_true rfl)))
    have hpos : methodCallPos true o env apos pos = pure pos := by unfold methodCallPos; simp [c2]
    rw [hform]
    refine wpAny_bind (wpAny_holding (meth_ok G.ok.G G.ok.C W₁ hv q fun fv hf => ?_))
    rw [hpos]
    refine wpAny_bind (wpAny_pure ?_)
    exact callWith_go (first := [ov]) he c5 (S.step W₁ st) hf (VL_cons.mpr ⟨v, [], rfl, hv, VL_nil.mpr rfl⟩) h₁ (fun _ _ c => c) (P.after sm st)

theorem attr_eo {o : Expr} {x : RE} {name : Str} {pos : Pos} (c : baseOk o = true) (ho : EO G L sc se o x) : EO G L sc se (.Attribute o name pos) (.attr x name) := by
  intro env r H k A s E Q S h P
  rw [arm_eval_Attribute, attributeBase_ok c]
  refine wpAny_bind (ho S h fun ov v H₁ s₁ sm st W₁ hv h₁ => wpAny_bind (wpAny_standAt ?_))
  have P₁ := P.after sm st
  refine wpAny_bind (wpAny_holding (attr_ok G.ok.G G.ok.C W₁ hv (fun pv v t d e => ?_) h₁))
  exact wpAny_bind (wpAny_letTemporaryGo (wpAny_pure (P₁.same W₁ d e)))
theorem sub_eo {o i : Expr} {x y : RE} {pos : Pos} (hs : notSlice i = true) (ho : EO G L sc se o x) (hi : EO G L sc se i y) : EO G L sc se (.Subscript o i pos) (.sub x y) := by
  intro env r H k A s E Q S h P
  refine Subscript_ (ho S h fun ov v H₁ s₁ sm st W₁ hv h₁ => ?_)
  refine hi (S.step W₁ st) h₁ fun iv iu H₂ s₂ sm₂ st₂ W₂ hiv h₂ => ?_
  exact item_ok W₂ (hv.step W₁ st₂) hiv ((P.after sm st).after sm₂ st₂) hs h₂
/-- a part of a slice -/
noncomputable def PO (G : Ctx) (L : Nat) (sc : Scope) (se : SEnv) (e : Option Expr) (x : RE) : Prop := ∀ ⦃env : Env⦄ ⦃r : Slots⦄ ⦃H : AHeap⦄ ⦃k : KV⦄ ⦃A : Around⦄ ⦃s : Shared⦄ ⦃E Q : Value → Shared → Prop⦄, St G L sc se env r A H s.heap → XE G L x r H k → HandG G s H k Q → wpAny G.M A (evalPart e env) Q E s
theorem none_po : PO G L sc se none (.val .none) := by
  intro env r H k A s E Q S h P
  rw [evalPart_none]
  exact wpAny_pure (P.here S.W (V_none.mpr rfl) h)
theorem some_po {e : Expr} {x : RE} (h : EO G L sc se e x) : PO G L sc se (some e) x := by
  intro env r H k A s E Q S q P
  rw [evalPart_some]
  exact h S q P
theorem slice_eo {o : Expr} {lo hi st : Option Expr} {x a b c : RE} {p pos : Pos} (ho : EO G L sc se o x) (h1 : PO G L sc se lo a) (h2 : PO G L sc se hi b) (h3 : PO G L sc se st c) : EO G L sc se (.Subscript o (.Slice lo hi st p) pos) (.slice x a b c) := by
  intro env r H k A s E Q S h P
  refine Subscript_ (ho S h fun ov v H₁ s₁ sm st W₁ hv h₁ => ?_)
  refine wpAny_Slice ?_
  have S₁ := S.step W₁ st
  refine h1 S₁ h₁ fun a av H₂ s₂ sm₂ st₂ W₂ ha h₂ => ?_
  have S₂ := S₁.step W₂ st₂
  refine h2 S₂ h₂ fun b bv H₃ s₃ sm₃ st₃ W₃ hb h₃ => ?_
  refine h3 (S₂.step W₃ st₃) h₃ fun c cv H₄ s₄ sm₄ st₄ W₄ hc h₄ => ?_
  have P₄ := (((P.after sm st).after sm₂ st₂).after sm₃ st₃).after sm₄ st₄
  refine slice_ok (s := { s₄ with heap := s₄.heap.push _ }) (W₄.push _) ((((hv.step W₁ st₂).step W₂ st₃).step W₃ st₄).push _) (push_new _) (((ha.step W₂ st₃).step W₃ st₄).push _) ((hb.step W₃ st₄).push _) (hc.push _) ?_ h₄
  exact P₄.after (s₁ := { s₄ with heap := s₄.heap.push _ }) ⟨rfl, rfl, rfl⟩ (Step.push _ _ _ _)
theorem dict0_eo {pos : Pos} : EO G L sc se (.Dict [] [] pos) .dict0 := by
  intro env r H k A s E Q S h P
  refine wpAny_Dict_empty (P.new S.W h ⟨[], ⟨_, #[], push_new _, ⟨rfl, rfl, rfl⟩, rfl, ?_, ?_, ?_⟩, rfl, VL_nil.mpr rfl⟩)
  · intro e he; simp at he
  · exact .nil
  · simp
theorem dict1_eo {a b : Expr} {x y : RE} {pos : Pos} (ha : EO G L sc se a x) (hb : EO G L sc se b y) : EO G L sc se (.Dict [some a] [b] pos) (.dict1 x y) := by
  intro env r H k A s E Q S h P
  refine wpAny_Dict_pairs (knd := intKind G.prog G.w) (pairs := [(eval a env, do let x ← eval b env; standAt pos; pure x)]) rfl (by simp) (by simp) ?_
  have W₀ := S.W.push { cls := .type "dict", data := .dict #[] }
  have S₀ : Step NoX H s.heap H (s.heap.push { cls := .type "dict", data := .dict #[] }) := Step.push _ _ _ _
  have H0 : H s.heap.objs.size = none := S.W.fresh (get?_new _)
  have m0 : (s.heap.push { cls := .type "dict", data := .dict #[] }).DictOf (intKind G.prog G.w) s.heap.objs.size [] := Heap.DictOf.new _
  refine wpAny_bind (ha (S.step W₀ S₀) h fun u uv H₁ s₁ sm₁ st₁ W₁ hu h₁ => ?_)
  refine wpAny_bind (wpAny_holding (wpAny_bind (hb ((S.step W₀ S₀).step W₁ st₁) h₁ fun v vv H₂ s₂ sm₂ st₂ W₂ hv h₂ => wpAny_bind (wpAny_standAt (wpAny_pure ?_)))))
  show wpAny _ _ (do let r ← holding _ (evalPairs []); pure _) _ _ _
  refine wpAny_bind (wpAny_holding (wpAny_pure (wpAny_pure ?_)))
  have S₂ := (S₀.trans st₁).trans st₂
  have st := st₁.trans st₂
  obtain ⟨o, es, ep, ho, r'⟩ := id m0
  have keep := st.keep _ _ ho H0 id
  cases u with
  | int i =>
    obtain ⟨t, rfl⟩ := V_int.mp (hu.step W₁ st₂)
    refine ⟨[(i, vv)], ⟨by simp [intKind, Value.isInt], rfl, trivial⟩, ⟨o, es, ep, keep.1, r'⟩, fun h' hm hs => ?_⟩
    have S₃ : Heap.ExtBut s.heap.objs.size s₂.heap h' := hs.extBut
    have hB : G.B.get? s.heap.objs.size = none := S.W.noNew
    have ki : KeepImm s₂.heap h' := fun b ob e im => S₃ b ob (fun q => by
      subst q; rw [keep.1] at e; cases e
      exact notImm_dict r'.2.1 im) e
    refine P _ _ _ _ (Same.trans (Same.trans (Same.trans (b := { s with heap := s.heap.push { cls := .type "dict", data := .dict #[] } }) ⟨rfl, rfl, rfl⟩ sm₁) sm₂) ⟨rfl, rfl, rfl⟩) ((S₂.atNew (get?_new _) S₃).alloc (get?_new _)) ?_ (V_ref.mpr rfl) (h₂ _ keep.2)
    refine (W₂.sameBut S₃ keep.2 hB fun o' e im => ?_).alloc keep.2 hB ⟨_, hm, by simp [merged, stored], ?_⟩
    · rw [keep.1] at e; cases e
      exact notImm_dict r'.2.1 im
    · exact VL_cons.mpr ⟨_, _, by simp [merged, stored], hv.mono ki, VL_nil.mpr rfl⟩
  | _ => exact h₂.elim
end

-- R6

theorem lookup_in {β : Type} {x : Str} {v : β} : ∀ {l : List (Str × β)}, l.lookup x = some v → (x, v) ∈ l := fun {l} e => by
  obtain ⟨l₁, l₂, q, _⟩ := List.lookup_eq_some_iff.mp e
  rw [q]; simp
theorem mOf_some {se : SEnv} {r : Slots} {x : Str} {i : Nat} (e : se.lookup x = some i) : mOf se r x = r i := by unfold mOf; rw [e]
theorem mOf_none {se : SEnv} {r : Slots} {x : Str} (e : se.lookup x = none) : mOf se r x = none := by unfold mOf; rw [e]
theorem look_inj {se : SEnv} (ok : envOk se = true) {x y : Str} {i : Nat} (e1 : se.lookup x = some i) (e2 : se.lookup y = some i) : y = x := by
  have nd : (se.map (·.2)).Nodup := of_decide_eq_true ok
  have inj : ∀ {se : SEnv}, (se.map (·.2)).Nodup → ∀ {x y : Str} {i : Nat}, se.lookup x = some i → se.lookup y = some i → y = x := by
    intro se
    induction se with
    | nil => intro _ x y i e; cases e
    | cons p q ih =>
      obtain ⟨z, j⟩ := p
      intro nd x y i e1 e2
      rw [List.map_cons, List.nodup_cons] at nd
      have key : ∀ {y : Str}, y ≠ z → ((z, j) :: q).lookup y = some j → False := fun {y} ne h => by
        rw [List.lookup_cons, beq_eq_false_iff_ne.mpr ne] at h
        exact nd.1 (List.mem_map.mpr ⟨_, lookup_in (show q.lookup y = some j from h), rfl⟩)
      by_cases c1 : x = z
      · by_cases c2 : y = z
        · rw [c1, c2]
        · subst c1; rw [List.lookup_cons, beq_self_eq_true] at e1; cases e1
          exact (key c2 e2).elim
      · by_cases c2 : y = z
        · subst c2; rw [List.lookup_cons, beq_self_eq_true] at e2; cases e2
          exact (key c1 e1).elim
        · rw [List.lookup_cons, beq_eq_false_iff_ne.mpr c1] at e1
          rw [List.lookup_cons, beq_eq_false_iff_ne.mpr c2] at e2
          exact ih nd.2 e1 e2
  exact inj nd e1 e2
theorem put_mOf {se : SEnv} {r : Slots} {x : Str} {i : Nat} {v : PV} (ok : envOk se = true) (e : se.lookup x = some i) : mOf se (r.put i v) = (mOf se r).put x v := by
  funext y
  unfold Loc.put
  by_cases c : y = x
  · subst c; rw [mOf_some e, if_pos rfl]; unfold Slots.put; simp
  · rw [if_neg c]
    cases q : se.lookup y with
    | none => rw [mOf_none q, mOf_none q]
    | some j =>
      have ne : j ≠ i := fun z => c (look_inj ok e (z ▸ q))
      rw [mOf_some q, mOf_some q]
      unfold Slots.put
      have : Nat.beq j i = false := by
        cases t : Nat.beq j i with
        | false => rfl
        | true => exact absurd (Nat.eq_of_beq_eq_true t) ne
      rw [this]; rfl

-- R7

section
variable {G : Ctx} {L : Nat} {sc : Scope} {se : SEnv} {env : Env} {A : Around} {E : Value → Shared → Prop} {s : Shared} {H : AHeap} {r : Slots}

abbrev CI (G : Ctx) (se : SEnv) (s₀ : Shared) (H₀ : AHeap) (env : Env) (D I : Addr) (src : Option (Addr × AObj)) (full : List PV) (i : Nat) (r : Slots) (acc : List PV) (H : AHeap) (s : Shared) : Prop := CInv G.prog G.w G.B s₀ H₀ env D I src full i (mOf se r) acc H s

/-- a comprehension's loop, its turn being known -/
theorem comp_go {elt : Expr} {gens : List Comprehension} {scope : Scope} {pos : Pos} {d : Nat} {D I : Addr} {tx : Str} {px itp : Pos} {ti : Nat} {REST : Sem Fin} {step : PV → Slots → List PV → AHeap → KC → Prop} {k : KC} {src : Option (Addr × AObj)} {full : List PV} {s₀ : Shared} {H₀ : AHeap} {R : Result → Shared → Prop}
    (N : EnvOk sc env) (inj : envOk se = true) (ht : isLoc sc tx = true) (hs : se.lookup tx = some ti) (hA : A.handled = none) (fI : s₀.heap.get? I = none)
    (tree : compTurn (.ListComp elt gens scope pos) d (.ref I) (.ref D) env = (do
      standAt itp
      match ← pyNext (.ref I) with
      | none => pure (.done .next)
      | some v =>
        letOwnedTupleGo (.Name tx px) (.ref I) v
        assign (.Name tx px) env v
        REST))
    (turn : ∀ (i : Nat) (x : PV) (r : Slots) (acc : List PV) (H : AHeap) (s : Shared) (kk : KC) (QQ : Fin → Shared → Prop) (EE : Value → Shared → Prop), CI G se s₀ H₀ env D I src full (i + 1) (r.put ti x) acc H s → step x r acc H kk →
      (∀ r' acc' H' s', CI G se s₀ H₀ env D I src full (i + 1) r' acc' H' s' → kk r' acc' H' → QQ (.again (.compLoop (.ListComp elt gens scope pos) d (.ref I) (.ref D) env)) s') → wpAny G.M A REST QQ EE s)
    {s : Shared} {H : AHeap} {r : Slots} {acc : List PV} (ci : CI G se s₀ H₀ env D I src full 0 r acc H s) (so : srcOk src H) (h : XForC step src k full r acc H)
    (hR : ∀ r' acc' H' s', Same s₀ s' → Step (CY env D) H₀ s₀.heap H' s'.heap → CSt G.prog G.w G.B env D (mOf se r') acc' H' s'.heap → k r' acc' H' → R (.ok .next) s') :
    codeAny G.M A (.compLoop (.ListComp elt gens scope pos) d (.ref I) (.ref D) env) R s := by
  refine codeAny_loop rfl (fun n s => ∃ i r acc H, n = full.length - i ∧ i ≤ full.length ∧ CI G se s₀ H₀ env D I src full i r acc H s ∧ srcOk src H ∧ XForC step src k (full.drop i) r acc H) ?_ full.length
    ⟨0, r, acc, H, rfl, Nat.zero_le _, ci, so, h⟩
  rintro n s ⟨i, r, acc, H, rfl, hi, c₀, so, h⟩
  show wpAny _ A ((compTurn (.ListComp elt gens scope pos) d (.ref I) (.ref D) env).onRaise (fun x => do noteFrame x env; theTreesLotGoes x)) _ _ s
  refine wpAny_noted ?_
  rw [tree]
  refine wpAny_bind (wpAny_standAt (wpAny_bind ?_))
  by_cases hlt : i < full.length
  · have hp : full[i]? = some full[i] := List.getElem?_eq_getElem hlt
    rw [List.drop_eq_getElem_cons hlt] at h
    refine iter_item c₀.c.W so c₀.HI c₀.BI c₀.it hp fun v h' tk hv it' S => ?_
    have c₁ := c₀.moved (tk := tk) fI S it'
    refine wpAny_bind (wpAny_pure ?_)
    have hf : env.scope.kind = .function := by rw [N.scope]; exact N.kind
    have hx : env.kindOf tx = some .local := by unfold Env.kindOf; rw [N.scope]; exact beq_iff_eq.mp ht
    refine wpAny_bind (wpAny_assign_Name (store_local c₁.c.F c₁.c.W hf hx hv fun s₂ sm₂ st₂ W₂ F₂ S₂ => ?_))
    have c₂ := c₁.put sm₂ S₂ W₂ F₂
    rw [← put_mOf inj hs] at c₂
    exact turn i _ r acc H s₂ _ _ _ c₂ h fun r' acc' H' s' ci hk => ⟨rfl, _, Nat.sub_lt_sub_left hlt (Nat.lt_succ_self i), i + 1, r', acc', H', rfl, hlt, ci, hk.1, hk.2⟩
  · have hp : full[i]? = none := List.getElem?_eq_none (Nat.le_of_not_lt hlt)
    refine iter_end hA c₀.c.W so c₀.it hp fun h' tk S => wpAny_pure ?_
    rw [List.drop_eq_nil_of_le (Nat.le_of_not_lt hlt)] at h
    exact hR r acc H _ (c₀.same.trans ⟨rfl, rfl, rfl⟩) (c₀.st.atNew fI S) (c₀.c.but S c₀.ti c₀.neL c₀.neD c₀.notCell c₀.HI c₀.BI) h
end

-- R8

theorem lookup_seen {scope : Scope} {y : Str} : ∀ {se : SEnv}, (seen se scope).lookup y = if scope.names.lookup y = some .free then se.lookup y else none
  | [] => by unfold seen; simp
  | (z, j) :: q => by
    have ih := @lookup_seen scope y q
    unfold seen at ih ⊢
    rw [List.filter_cons]
    by_cases c : y = z
    · subst c
      by_cases f : scope.names.lookup y = some .free
      · rw [if_pos (by simp [f]), List.lookup_cons, beq_self_eq_true, List.lookup_cons, beq_self_eq_true, if_pos f]
      · rw [if_neg (by simp [f]), ih, if_neg f, if_neg f]
    · have cb : (y == z) = false := beq_eq_false_iff_ne.mpr c
      have e2 : List.lookup y ((z, j) :: q) = q.lookup y := by rw [List.lookup_cons, cb]
      rw [e2, ← ih]
      split
      · rw [List.lookup_cons, cb]
      · rfl
theorem below_mem {se : SEnv} {n : Nat} (b : below se n = true) {p : Str × Nat} (h : p ∈ se) : p.2 < n := by
  have := List.all_eq_true.mp b p h
  exact Nat.le_of_ble_eq_true this
theorem seen_sub {se : SEnv} {scope : Scope} {p : Str × Nat} (h : p ∈ seen se scope) : p ∈ se := (List.mem_filter.mp h).1
theorem below_seen {se : SEnv} {scope : Scope} {n : Nat} (b : below se n = true) : below (seen se scope) n = true := List.all_eq_true.mpr fun p h => List.all_eq_true.mp b p (seen_sub h)
theorem seen_ok {se : SEnv} {scope : Scope} (ok : envOk se = true) : envOk (seen se scope) = true := by
  have nd : (se.map (·.2)).Nodup := of_decide_eq_true ok
  refine decide_eq_true (nd.sublist ?_)
  exact List.Sublist.map _ List.filter_sublist
theorem cons_ok {se : SEnv} {n : Nat} {t : Str} (ok : envOk se = true) (b : below se n = true) : envOk ((t, n) :: se) = true := by
  have nd : (se.map (·.2)).Nodup := of_decide_eq_true ok
  refine decide_eq_true ?_
  rw [List.map_cons, List.nodup_cons]
  refine ⟨fun h => ?_, nd⟩
  obtain ⟨p, hp, e⟩ := List.mem_map.mp h
  have := below_mem b hp
  omega
theorem below_cons {se : SEnv} {n : Nat} {t : Str} (b : below se n = true) : below ((t, n) :: se) (n + 1) = true := by
  refine List.all_eq_true.mpr fun p h => ?_
  rcases List.mem_cons.mp h with rfl | h
  · simp
  · have := below_mem b h
    exact Nat.ble_eq_true_of_le (by omega)
theorem clr_mOf {se : SEnv} {r : Slots} {n : Nat} (b : below se n = true) : mOf se (r.clr n) = mOf se r := by
  funext y
  cases q : se.lookup y with
  | none => rw [mOf_none q, mOf_none q]
  | some j =>
    rw [mOf_some q, mOf_some q]
    have := below_mem b (lookup_in q)
    unfold Slots.clr
    have : Nat.beq j n = false := by
      cases t : Nat.beq j n with
      | false => rfl
      | true => have := Nat.eq_of_beq_eq_true t; omega
    rw [this]; rfl
theorem new_mOf {se : SEnv} {r : Slots} {n : Nat} {t : Str} (e : r n = none) (f : mOf se r t = none) : mOf ((t, n) :: se) r = mOf se r := by
  funext y
  by_cases c : y = t
  · subst c
    rw [f, mOf_some (i := n) (by rw [List.lookup_cons, beq_self_eq_true]), e]
  · have : List.lookup y ((t, n) :: se) = se.lookup y := by rw [List.lookup_cons, beq_eq_false_iff_ne.mpr c]
    unfold mOf; rw [this]
theorem seen_mOf {se : SEnv} {r : Slots} {scope : Scope} : mOf (seen se scope) r = compLoc scope (mOf se r) := by
  funext y
  unfold compLoc
  by_cases c : scope.names.lookup y = some .free
  · rw [if_pos c]; unfold mOf; rw [lookup_seen, if_pos c]
  · rw [if_neg c, mOf_none (by rw [lookup_seen, if_neg c])]

-- R9

section
variable {G : Ctx} {L : Nat} {sc : Scope} {se : SEnv} {env : Env} {A : Around} {E : Value → Shared → Prop} {s : Shared} {H : AHeap} {r : Slots}

/-- a comprehension from its first walk on -/
theorem comp_base {elt t it : Expr} {ifs : List Expr} {gs : List Comprehension} {scope : Scope} {pos : Pos} {iv : PV} {v : Value} {k : List PV → Option (Addr × AObj) → Prop} {K : List PV → AHeap → Prop} {se' : SEnv} {r' : Slots} {RR : Value → Addr → Result → Shared → Prop} (C : CompOk scope sc) (S : St G L sc se env r A H s.heap)
    (hm : mOf se' r' = compLoc scope (mOf se r)) (hv : V G.B s.heap iv v) (h : itemsW iv H k)
    (loop : ∀ (cenv : Env) (D I : Addr) (src : Option (Addr × AObj)) (full : List PV) (s₀ s₁ : Shared) (R : Result → Shared → Prop), EnvOk (relabelS scope sc) cenv → s₀.heap.get? I = none → CI G se' s₀ H cenv D I src full 0 r' [] H s₁ → srcOk src H → k full src →
      (∀ r'' acc' H' s', Same s₀ s' → Step (CY cenv D) H s₀.heap H' s'.heap → CSt G.prog G.w G.B cenv D (mOf se' r'') acc' H' s'.heap → K acc' H' → R (.ok .next) s') →
      codeAny G.M A (.compLoop (.ListComp elt (⟨t, it, ifs, 0⟩ :: gs) scope pos) 0 (.ref I) (.ref D) cenv) R s₁)
    (hRR : ∀ D C' acc H' s', CEnd G.prog G.w G.B s H D C' acc H' s' → K acc H' → RR (.ref D) C' (.ok .next) s') :
    wpAny G.M A (pyIter v) (fun it' s₂ => wpAny G.M A (newList []) (fun acc s₃ => wpAny G.M A (newFunctionEnv scope env.globals (compCl scope env) [] env.qual none .none (some env)) (fun cenv s₄ =>
      codeAny G.M A (.compStart (.ListComp elt (⟨t, it, ifs, 0⟩ :: gs) scope pos) 0 it' acc { cenv with scope := relabel scope env }) (RR acc cenv.locals) s₄) E s₃) E s₂) E s := by
  refine iter_start S.W hv h (G.ok.G.sysn S.W) fun I xs src h₁ h5 so fI it₁ k₁ => ?_
  refine wpAny_newObj_type (wpAny_newFunctionEnv C.noCell (by intro y hy; simp at hy) (fun h₂ hns hsb => ?_) C.kind)
  dsimp only at hns hsb ⊢
  generalize hH2 : h₁.push { cls := .type "list", dict := none, data := .seq ([] : List Value).toArray } = H2 at hns hsb ⊢
  have hC : H2.objs.size = h₁.objs.size + 1 := by rw [← hH2, Heap.size_push]
  have hDC : h₁.objs.size ≠ H2.objs.size := by rw [hC]; exact Nat.ne_of_lt (Nat.lt_succ_self _)
  have k₂ : ∀ b o, h₁.get? b = some o → h₂.get? b = some o := fun b o e => hsb.extBut b o (Nat.ne_of_lt (Nat.lt_trans (Heap.lt_size e) (by rw [hC]; exact Nat.lt_succ_self _))) (Heap.get?_push_of_some _ (hH2 ▸ Heap.get?_push_of_some _ e))
  have kk : ∀ b o, s.heap.get? b = some o → h₂.get? b = some o := fun b o e => k₂ _ _ (k₁ _ _ e)
  have fresh₁ : ∀ a, h₁.objs.size ≤ a → s.heap.get? a = none := fun a ha => by
    cases e : s.heap.get? a with
    | none => rfl
    | some o' => exact absurd (Heap.lt_size (k₁ _ _ e)) (Nat.not_lt.mpr ha)
  have fD := fresh₁ h₁.objs.size (Nat.le_refl _)
  have fC := fresh₁ H2.objs.size (by rw [hC]; exact Nat.le_succ _)
  have eD : h₂.get? h₁.objs.size = some { cls := .type "list", dict := none, data := .seq ([] : List Value).toArray } := hsb.extBut _ _ hDC (Heap.get?_push_of_some _ (hH2 ▸ Heap.get?_push_size _ rfl))
  have N' : EnvOk (relabelS scope sc) (compEnvC scope (compCl scope env) H2.objs.size env) := ⟨relabel_eq S.N, C.kind, S.N.globals, S.N.builtins⟩
  have F' := comp_frame C S.N S.F S.W kk fC hns
  rw [← hm] at F'
  have W' : WF G.prog G.w G.B H h₂ := S.W.keeps kk
  have ci : CI G se' s H (compEnvC scope (compCl scope env) H2.objs.size env) h₁.objs.size I src xs 0 r' [] H { s with heap := h₂, toks := s.toks + ([] : List (Str × Value)).length } :=
    ⟨⟨rfl, rfl, rfl⟩, Step.keeps kk, ⟨F', W', ⟨[], _, eD, VL_nil.mpr rfl⟩, S.W.fresh fD, S.W.freshB fD⟩, S.W.fresh fI, S.W.freshB fI, it₁.mono (fun a o e _ => k₂ _ _ e) fun o e => k₂ _ _ e⟩
  have lp := loop _ _ _ _ _ s _ (RR (.ref h₁.objs.size) H2.objs.size) N' fI ci so h5 fun r'' acc' H' s' sm st cs hk => by
    have HC : H' H2.objs.size = none := cs.F.loc
    exact hRR _ _ acc' H' s' ⟨sm, st.drop (fun a q => by rcases q with rfl | rfl; exact fC; exact fD), cs.W, cs.L, cs.HD, cs.BD, fD, (by obtain ⟨mv, hn, _⟩ := cs.F.ns; exact ⟨mv, hn⟩), HC, cs.F.high, fC, hDC⟩ hk
  exact codeAny_compStart_at rfl lp (iter_self ci.it lp)
end

-- R10

section
variable {G : Ctx} {L : Nat} {sc : Scope} {se : SEnv}

/-- what a comprehension's tree does: its loop -/
noncomputable def LoopOk (G : Ctx) (L : Nat) (scI : Scope) (seI : SEnv) (elt t it : Expr) (ifs : List Expr) (gs : List Comprehension) (scope : Scope) (pos : Pos) (step : PV → Slots → List PV → AHeap → KC → Prop) : Prop :=
  ∀ ⦃A : Around⦄ ⦃cenv : Env⦄ ⦃D I : Addr⦄ ⦃src : Option (Addr × AObj)⦄ ⦃full : List PV⦄ ⦃s₀ s₁ : Shared⦄ ⦃H₀ H : AHeap⦄ ⦃r : Slots⦄ ⦃acc : List PV⦄ ⦃R : Result → Shared → Prop⦄ ⦃k : KC⦄, L ≤ 60 → AOk L A → EnvOk scI cenv → s₀.heap.get? I = none → CI G seI s₀ H₀ cenv D I src full 0 r acc H s₁ → srcOk src H → XForC step src k full r acc H →
    (∀ r'' acc' H' s', Same s₀ s' → Step (CY cenv D) H₀ s₀.heap H' s'.heap → CSt G.prog G.w G.B cenv D (mOf seI r'') acc' H' s'.heap → k r'' acc' H' → R (.ok .next) s') →
    codeAny G.M A (.compLoop (.ListComp elt (⟨t, it, ifs, 0⟩ :: gs) scope pos) 0 (.ref I) (.ref D) cenv) R s₁

theorem lc_eo {elt t it : Expr} {ifs : List Expr} {gs : List Comprehension} {scope : Scope} {pos : Pos} {seI : SEnv} {clr : Slots → Slots} {step : PV → Slots → List PV → AHeap → KC → Prop} {x y : RE} (c0 : notSet it = true) (C : CompOk scope sc)
    (hx : ∀ r H k, XE G L x r H k → XE G L y r H (fItC step (clr r) [] (fNewL k))) (hy : EO G L sc se it y) (hm : ∀ r, mOf seI (clr r) = compLoc scope (mOf se r)) (lp : LoopOk G L (relabelS scope sc) seI elt t it ifs gs scope pos step) :
    EO G L sc se (.ListComp elt (⟨t, it, ifs, 0⟩ :: gs) scope pos) x := by
  intro env r H k A s E Q S h P
  rw [eval_ListComp]
  refine wpAny_comprehension_free (use := none) rfl (fun x => by cases it <;> first | rfl | cases c0) (closure_ok (C.cells S.N S.F)) C.kind C.locals ?_
  refine hy S (hx _ _ _ h) fun iv v H₁ s₁ sm st W₁ hv h₁ => ?_
  refine comp_base (K := fun acc H' => newW (.list acc) H' k) (RR := fun acc C => compPost G.M A E none Q acc C) C (S.step W₁ st) (hm r) hv h₁.go (fun cenv D I src full s₀ s₂ R N' fI ci so h5 hR => lp S.hl S.hA N' fI ci so h5 hR) fun D C' acc H' s' c hk => ?_
  obtain ⟨mv, hn⟩ := c.ns
  exact ⟨mv, hn, fun h' S => c.fin S (P.after sm st) hk⟩

/-- an item is laid to the list -/
theorem comp_emit {elt : Expr} {xe : RE} {scI : Scope} {seI : SEnv} {cenv : Env} {A : Around} {c : Expr} {d : Nat} {D I : Addr} {it0 : Value} {src : Option (Addr × AObj)} {full : List PV} {i : Nat} {s₀ s : Shared} {H₀ H : AHeap} {r : Slots} {acc : List PV} {kk : KC} {QQ : Fin → Shared → Prop} {EE : Value → Shared → Prop} (he : EO G L scI seI elt xe) (hl : L ≤ 60) (hA : AOk L A) (N : EnvOk scI cenv) (inj : envOk seI = true)
    (ci : CI G seI s₀ H₀ cenv D I src full i r acc H s) (h : XE G L xe r H (fEm r acc kk))
    (hQ : ∀ acc' H' s', CI G seI s₀ H₀ cenv D I src full i r acc' H' s' → kk r acc' H' → QQ (.again (.compLoop c d it0 (.ref D) cenv)) s') :
    wpAny G.M A (do
      let x ← eval elt cenv
      let _ ← call (.builtin "list.append") [.ref D, x]
      again (.compLoop c d it0 (.ref D) cenv)) QQ EE s := by
  have S : St G L scI seI cenv r A H s.heap := ⟨hl, hA, N, ci.c.F, ci.c.W, inj⟩
  refine wpAny_bind (he S h fun pv v H₄ s₄ sm₄ st₄ W₄ hv h₄ => ?_)
  obtain ⟨hsz, h₄⟩ := h₄
  have c₄ := ci.step sm₄ st₄ W₄
  obtain ⟨vs, n, e, hvs⟩ := c₄.c.L
  refine wpAny_bind (append_at (hsz := by rw [sizeLine_eq]; have := hvs.length; simp; omega) e fun h₅ S₅ e₅ => wpAny_pure ?_)
  have c₅ := c₄.grown (n' := n + 1) S₅.extBut e hvs (by rw [e₅]; simp) hv
  exact hQ _ _ _ c₅ h₄
theorem loop1 {elt it : Expr} {xe : RE} {scI : Scope} {seI : SEnv} {tx : Str} {px : Pos} {ti : Nat} {scope : Scope} {pos : Pos} (he : EO G L scI seI elt xe) (inj : envOk seI = true) (ht : isLoc scI tx = true) (hs : seI.lookup tx = some ti) :
    LoopOk G L scI seI elt (.Name tx px) it [] [] scope pos (fCo1 (XE G L xe) ti) := by
  intro A cenv D I src full s₀ s₁ H₀ H r acc R k hl hA N fI ci so h hR
  refine comp_go N inj ht hs hA.handled fI (compTurn_last rfl rfl) (fun i x r acc H s kk QQ EE ci hst hq => ?_) ci so h hR
  refine wpAny_bind (wpAny_tests_nil ?_)
  rw [if_pos rfl]
  exact comp_emit he hl hA N inj ci hst fun acc' H' s' ci hk => hq _ acc' H' s' ci hk
theorem loop2 {elt it it2 c : Expr} {xe x2 : RE} {xc : RT} {scI : Scope} {seI : SEnv} {tx ty : Str} {px py : Pos} {ti tj : Nat} {scope : Scope} {pos : Pos} (he : EO G L scI seI elt xe) (h2 : EO G L scI seI it2 x2) (hc : TO G L scI seI c xc) (c2 : notSet it2 = true) (inj : envOk seI = true)
    (ht : isLoc scI tx = true) (hs : seI.lookup tx = some ti) (ht2 : isLoc scI ty = true) (hs2 : seI.lookup ty = some tj) :
    LoopOk G L scI seI elt (.Name tx px) it [] [⟨.Name ty py, it2, [c], 0⟩] scope pos (fCo3 (XE G L xe) ti (XE G L x2) tj (XT G L xc)) := by
  intro A cenv D I src full s₀ s₁ H₀ H r acc R k hl hA N fI ci so h hR
  refine comp_go N inj ht hs hA.handled fI (compTurn_more rfl rfl c2) (fun i x r acc H s kk QQ EE ci hst hq => ?_) ci so h hR
  refine wpAny_bind (wpAny_tests_nil ?_)
  rw [if_pos rfl]
  have S : St G L scI seI cenv (r.put ti x) A H s.heap := ⟨hl, hA, N, ci.c.F, ci.c.W, inj⟩
  refine wpAny_bind (h2 S hst fun iv ivv H₄ s₄ sm₄ st₄ W₄ hiv h₄ => ?_)
  have c₄ := ci.step sm₄ st₄ W₄
  refine wpAny_bind (wpAny_standAt (wpAny_bind (wpAny_holding ?_)))
  refine iter_start W₄ hiv h₄.go (G.ok.G.sysn W₄) fun I' xs src' h₅ h5 so' fI' it₅ k₅ => ?_
  have sm₅ : Same s₄ { s₄ with heap := h₅ } := ⟨rfl, rfl, rfl⟩
  have W₅ : WF G.prog G.w G.B H₄ h₅ := W₄.keeps k₅
  have S₅ : Step NoX H₄ s₄.heap H₄ h₅ := Step.keeps k₅
  have cj : CI G seI s₄ H₄ cenv D I' src' xs 0 (r.put ti x) acc H₄ { s₄ with heap := h₅ } := ⟨sm₅, S₅.ofNo, c₄.c.step S₅ W₅, W₄.fresh fI', W₄.freshB fI', it₅⟩
  have hA' : AOk L (A.mark none) := ⟨hA.handled, hA.depth, hA.units⟩
  have loop := fun R' hR' => comp_go (A := A.mark none) (R := R') (d := 1) (gens := [⟨.Name tx px, it, [], 0⟩, ⟨.Name ty py, it2, [c], 0⟩]) (elt := elt) (scope := scope) (pos := pos) N inj ht2 hs2 hA'.handled fI' (compTurn_last rfl rfl) (fun i' x' r' acc' H' s' kk' QQ' EE' ci' hst' hq' => by
    have S' : St G L scI seI cenv (r'.put tj x') (A.mark none) H' s'.heap := ⟨hl, hA', N, ci'.c.F, ci'.c.W, inj⟩
    refine wpAny_bind (wpAny_tests_one (hc S' hst' fun b H₆ s₆ sm₆ st₆ W₆ h₆ => ?_))
    have c₆ := ci'.step sm₆ st₆ W₆
    cases b with
    | false => exact wpAny_pure (hq' _ _ _ _ c₆ (h₆.no rfl))
    | true =>
      rw [if_pos rfl]
      exact comp_emit he hl hA' N inj c₆ (h₆.yes rfl) fun acc'' H'' s'' ci'' hk => hq' _ acc'' H'' s'' ci'' hk) cj so' h5 hR'
  refine wpAny_bind (wpAny_runOwn (codeAny_compStart_at rfl (loop _ ?_) (iter_self it₅ (loop _ ?_))))
  · exact fun r' acc' H' s' sm st cs hk => wpAny_pure (hq r' acc' H' s' (c₄.inner sm st cs) hk)
  · exact fun r' acc' H' s' sm st cs hk => wpAny_pure (hq r' acc' H' s' (c₄.inner sm st cs) hk)
end

-- R11

section
variable {G : Ctx} {L : Nat}

theorem resL_ok {f : Expr → Option RE} {sc : Scope} {se : SEnv} (hf : ∀ e x, f e = some x → EO G L sc se e x) : ∀ {es : List Expr} {xs : RL}, resL f es = some xs → EOs G L sc se es xs
  | [], _, h => by cases Option.some.inj h; exact .nil
  | e :: es, _, h => by
    obtain ⟨x, xs, h1, h2, rfl⟩ := o2_inv h
    exact .cons (hf e x h1) (resL_ok hf h2)
theorem resTL_ok {f : Expr → Option RT} {sc : Scope} {se : SEnv} (hf : ∀ e x, f e = some x → TO G L sc se e x) : ∀ {es : List Expr} {xs : RTL}, resTL f es = some xs → TOs G L sc se es xs
  | [], _, h => by cases Option.some.inj h; exact .nil
  | e :: es, _, h => by
    obtain ⟨x, xs, h1, h2, rfl⟩ := o2_inv h
    exact .cons (hf e x h1) (resTL_ok hf h2)
theorem resO_ok {f : Expr → Option RE} {sc : Scope} {se : SEnv} (hf : ∀ e x, f e = some x → EO G L sc se e x) : ∀ {e : Option Expr} {x : RE}, resO f e = some x → PO G L sc se e x
  | none, _, h => by cases Option.some.inj h; exact none_po
  | some e, _, h => some_po (hf e _ h)

theorem no_res {α : Type} {x : α} {P : Prop} (h : none = some x) : P := by cases h
theorem and2 {a b : Bool} (h : (a && b) = true) : a = true ∧ b = true := Bool.and_eq_true_iff.mp h
theorem and3 {a b c : Bool} (h : (a && b && c) = true) : a = true ∧ b = true ∧ c = true := ⟨(and2 (and2 h).1).1, (and2 (and2 h).1).2, (and2 h).2⟩
theorem and4 {a b c d : Bool} (h : (a && b && c && d) = true) : a = true ∧ b = true ∧ c = true ∧ d = true := ⟨(and2 (and3 h).1).1, (and2 (and3 h).1).2, (and3 h).2⟩
theorem not_eq {b : Bool} (h : (!b) = true) : b = false := by cases b <;> first | rfl | cases h
theorem comp_of {sc scope : Scope} {it : Expr} {gs : List Comprehension} (c : compGuard sc it gs scope = true) : notSet it = true ∧ (gs.all fun g => g.is_async == 0 && notSet g.iter) = true ∧ CompOk scope sc := by
  unfold compGuard at c
  obtain ⟨c, c6⟩ := and2 c
  obtain ⟨c, c5⟩ := and2 c
  obtain ⟨c, c3, c4⟩ := and3 c
  exact ⟨(and2 c).1, (and2 c).2, compOk_of (beq_iff_eq.mp c3) c4 c5 c6⟩
theorem name_inv {t : Expr} {x : Str} (h : nameOf t = some x) : ∃ p, t = .Name x p := by
  cases t with
  | Name y p => exact ⟨p, by cases h; rfl⟩
  | _ => exact no_res h
theorem clr_same {r : Slots} {n : Nat} : (r.clr n) n = none := by unfold Slots.clr; rw [Nat.beq_refl]; rfl
theorem isNone_eq {α : Type} {o : Option α} (h : o.isNone = true) : o = none := by cases o <;> first | rfl | cases h
theorem own_mOf {se : SEnv} {sc : Scope} {r : Slots} {n : Nat} {t : Str} (o : ownOk se sc t = true) (b : below se n = true) : mOf ((t, n) :: se) (r.clr n) = mOf se r := (new_mOf clr_same (mOf_none (isNone_eq (and2 o).2))).trans (clr_mOf b)
theorem look_new {se : SEnv} {t : Str} {n : Nat} : List.lookup t ((t, n) :: se) = some n := by rw [List.lookup_cons, beq_self_eq_true]

variable (G L) in
/-- what is known of a comprehension -/
inductive LC (sc : Scope) (se : SEnv) : Expr → RE → Prop
  | mk {elt t it : Expr} {ifs : List Expr} {gs : List Comprehension} {scope : Scope} {pos : Pos} {seI : SEnv} {clr : Slots → Slots} {step : PV → Slots → List PV → AHeap → KC → Prop} {x y : RE} (c0 : notSet it = true) (C : CompOk scope sc)
    (hx : ∀ r H k, XE G L x r H k → XE G L y r H (fItC step (clr r) [] (fNewL k))) (hy : EO G L sc se it y) (hm : ∀ r, mOf seI (clr r) = compLoc scope (mOf se r)) (lp : LoopOk G L (relabelS scope sc) seI elt t it ifs gs scope pos step) :
    LC sc se (.ListComp elt (⟨t, it, ifs, 0⟩ :: gs) scope pos) x
theorem LC.eo {sc : Scope} {se : SEnv} {e : Expr} {x : RE} (h : LC G L sc se e x) : EO G L sc se e x := by
  cases h with
  | mk c0 C hx hy hm lp => exact lc_eo c0 C hx hy hm lp

theorem comp_ok {f : Nat → SEnv → Scope → Expr → Option RE} {ft : Nat → SEnv → Scope → Expr → Option RT} (ie : ∀ {s se sc e x}, envOk se = true → f s se sc e = some x → EO G L sc se e x) (it : ∀ {s se sc e x}, envOk se = true → ft s se sc e = some x → TO G L sc se e x)
    {s : Nat} {se : SEnv} {sc scope : Scope} {elt : Expr} {pos : Pos} {x : RE} (ok : envOk se = true) : ∀ {gs : List Comprehension}, resC s se sc scope f ft elt gs = some x → LC G L sc se (.ListComp elt gs scope pos) x
  | [⟨t, it, [], a⟩], h => by
    have h : (match nameOf t with | some t => _ | none => none) = some x := h
    cases q : nameOf t with
    | none => rw [q] at h; exact no_res h
    | some t' =>
      rw [q] at h
      obtain ⟨p, rfl⟩ := name_inv q
      obtain ⟨c, h⟩ := og_inv h
      obtain ⟨c0, c1, c2, c3⟩ := and4 c
      obtain ⟨i, y, h1, h2, rfl⟩ := o2_inv h
      cases eq_of_beq c0
      obtain ⟨g1, _, C⟩ := comp_of c1
      have b := below_seen (scope := scope) c3
      have inj := cons_ok (t := t') (seen_ok (scope := scope) ok) b
      exact .mk g1 C (clr := fun r => r.clr s) (fun r H k h => h) (ie ok h1) (fun r => (own_mOf c2 b).trans seen_mOf) (loop1 (ie inj h2) inj (and2 c2).1 look_new)
  | [⟨t, it2, [], a⟩, ⟨t', it', [c], a'⟩], h => by
    have h : (match nameOf t, nameOf t' with | some t, some u => _ | _, _ => none) = some x := h
    cases q : nameOf t with
    | none => rw [q] at h; exact no_res h
    | some v =>
      cases q' : nameOf t' with
      | none => rw [q, q'] at h; exact no_res h
      | some u =>
        rw [q, q'] at h
        obtain ⟨p, rfl⟩ := name_inv q
        obtain ⟨p', rfl⟩ := name_inv q'
        obtain ⟨c', h⟩ := og_inv h
        obtain ⟨c0, c1, c2, c3⟩ := and4 c'
        obtain ⟨d, h⟩ := og_inv h
        obtain ⟨d1, d2⟩ := and2 d
        obtain ⟨i, y, h1, h2, rfl⟩ := o2_inv h
        obtain ⟨y1, y2, y3, e1, e2, e3, rfl⟩ := o3_inv h2
        cases eq_of_beq c0
        obtain ⟨g1, g2, C⟩ := comp_of c1
        obtain ⟨g3, g4⟩ := and2 (and2 g2).1
        cases eq_of_beq g3
        have b := below_seen (scope := scope) c3
        have inj := cons_ok (t := v) (seen_ok (scope := scope) ok) b
        have b2 := below_cons (t := v) b
        have inj2 := cons_ok (t := u) inj b2
        have lk : List.lookup v ((u, s + 1) :: (v, s) :: seen se scope) = some s := by rw [List.lookup_cons, not_eq d2]; exact look_new
        exact .mk g1 C (clr := fun r => (r.clr s).clr (s + 1)) (fun r H k h => h) (ie ok h1) (fun r => ((own_mOf d1 b2).trans (own_mOf c2 b)).trans seen_mOf) (loop2 (ie inj2 e1) (ie inj2 e2) (it inj2 e3) g4 inj2 (and2 c2).1 lk (and2 d1).1 look_new)
  | [], h => no_res h
  | [⟨_, _, _ :: _, _⟩], h => no_res h
  | [⟨_, _, _ :: _, _⟩, _], h => no_res h
  | [⟨_, _, [], _⟩, ⟨_, _, [], _⟩], h => no_res h
  | [⟨_, _, [], _⟩, ⟨_, _, _ :: _ :: _, _⟩], h => no_res h
  | ⟨_, _, _ :: _, _⟩ :: _ :: _ :: _, h => no_res h
  | ⟨_, _, [], _⟩ :: ⟨_, _, [], _⟩ :: _ :: _, h => no_res h
  | ⟨_, _, [], _⟩ :: ⟨_, _, [_], _⟩ :: _ :: _, h => no_res h
  | ⟨_, _, [], _⟩ :: ⟨_, _, _ :: _ :: _, _⟩ :: _ :: _, h => no_res h

theorem res_ok : ∀ n : Nat, (∀ {s : Nat} {se : SEnv} {sc : Scope} {e : Expr} {x : RE}, envOk se = true → resE n s se sc e = some x → EO G L sc se e x) ∧ (∀ {s : Nat} {se : SEnv} {sc : Scope} {e : Expr} {x : RT}, envOk se = true → resT n s se sc e = some x → TO G L sc se e x)
  | 0 => ⟨fun _ h => no_res h, fun _ h => no_res h⟩
  | n + 1 => by
    obtain ⟨ie, it⟩ := res_ok n
    refine ⟨fun {s se sc e x} ok h => ?_, fun {s se sc e x} ok h => ?_⟩
    · have il := fun {es xs} => @resL_ok G L (resE n s se sc) sc se (fun e x h => ie ok h) es xs
      cases e with
      | Constant c k p => obtain ⟨v, h1, rfl⟩ := o1_inv h; exact const_eo h1
      | Name y p =>
        obtain ⟨d, h⟩ := og_inv h
        have d := not_eq d
        cases g : isGlb sc y with
        | true => rw [g] at h; obtain ⟨v, h1, rfl⟩ := o1_inv h; exact glob_eo d g h1
        | false => rw [g] at h; obtain ⟨v, h1, rfl⟩ := o1_inv h; exact name_eo d g h1
      | BinOp a op b p => obtain ⟨x, y, h1, h2, rfl⟩ := o2_inv h; exact bin_eo (ie ok h1) (ie ok h2)
      | UnaryOp op a p =>
        cases op with
        | USub => obtain ⟨x, h1, rfl⟩ := o1_inv h; exact neg_eo (ie ok h1)
        | Not => obtain ⟨x, h1, rfl⟩ := o1_inv h; exact nt_eo (ie ok h1)
        | _ => exact no_res h
      | BoolOp op vs p => obtain ⟨x, h1, rfl⟩ := o1_inv h; exact bool_eo (il h1)
      | Compare a ops bs p =>
        match ops, bs, h with
        | [op], [b], h =>
          obtain ⟨c, h⟩ := og_inv h
          obtain ⟨x, y, h1, h2, rfl⟩ := o2_inv h
          exact cmp1_eo c (ie ok h1) (ie ok h2)
        | [op, op'], [b, c], h =>
          obtain ⟨c, h⟩ := og_inv h
          obtain ⟨x, y, z, h1, h2, h3, rfl⟩ := o3_inv h
          exact cmp2_eo (and2 c).1 (and2 c).2 (ie ok h1) (ie ok h2) (ie ok h3)
        | [], _, h => exact no_res h
        | [_], [], h => exact no_res h
        | [_], _ :: _ :: _, h => exact no_res h
        | [_, _], [], h => exact no_res h
        | [_, _], [_], h => exact no_res h
        | [_, _], _ :: _ :: _ :: _, h => exact no_res h
        | _ :: _ :: _ :: _, _, h => exact no_res h
      | IfExp t a b p => obtain ⟨x, y, z, h1, h2, h3, rfl⟩ := o3_inv h; exact ife_eo (it ok h1) (ie ok h2) (ie ok h3)
      | Attribute o name p => obtain ⟨c, h⟩ := og_inv h; obtain ⟨x, h1, rfl⟩ := o1_inv h; exact attr_eo c (ie ok h1)
      | List es p => obtain ⟨c, h⟩ := og_inv h; obtain ⟨x, h1, rfl⟩ := o1_inv h; exact list_eo c (il h1)
      | Tuple es k p => obtain ⟨c, h⟩ := og_inv h; obtain ⟨x, h1, rfl⟩ := o1_inv h; exact tup_eo c (il h1)
      | Call f args kws p =>
        cases f with
        | Attribute o name apos =>
          obtain ⟨c, h⟩ := og_inv h
          obtain ⟨c1, c2⟩ := and2 c
          obtain ⟨x, xs, h1, h2, rfl⟩ := o2_inv h
          cases List.isEmpty_iff.mp c1
          exact meth_eo c2 (ie ok h1) (il h2)
        | Name f q =>
          obtain ⟨c, h⟩ := og_inv h
          obtain ⟨c1, c2, c3, c4⟩ := and4 c
          obtain ⟨v, xs, h1, h2, rfl⟩ := o2_inv h
          cases List.isEmpty_iff.mp c1
          exact call_eo c2 (glob_eo (not_eq c3) c4 h1) (il h2)
        | _ => exact no_res h
      | Subscript o i p =>
        have key : og (notSlice i) (o2 (resE n s se sc o) (resE n s se sc i) .sub) = some x → EO G L sc se (.Subscript o i p) x := fun h => by
          obtain ⟨c, h⟩ := og_inv h
          obtain ⟨x, y, h1, h2, rfl⟩ := o2_inv h
          exact sub_eo c (ie ok h1) (ie ok h2)
        cases i with
        | Slice lo hi st q =>
          obtain ⟨x, y, h1, h2, rfl⟩ := o2_inv h
          obtain ⟨y1, y2, y3, e1, e2, e3, rfl⟩ := o3_inv h2
          have io := fun {e x} => @resO_ok G L (resE n s se sc) sc se (fun e x h => ie ok h) e x
          exact slice_eo (ie ok h1) (io e1) (io e2) (io e3)
        | _ => exact key h
      | Dict ks vs p =>
        match ks, vs, h with
        | [], [], h => cases Option.some.inj h; exact dict0_eo
        | [some a], [b], h => obtain ⟨x, y, h1, h2, rfl⟩ := o2_inv h; exact dict1_eo (ie ok h1) (ie ok h2)
        | [], _ :: _, h => exact no_res h
        | [none], _, h => exact no_res h
        | [some _], [], h => exact no_res h
        | [some _], _ :: _ :: _, h => exact no_res h
        | none :: _ :: _, _, h => exact no_res h
        | some _ :: _ :: _, [], h => exact no_res h
        | some _ :: _ :: _, [_], h => exact no_res h
        | some _ :: _ :: _, _ :: _ :: _, h => exact no_res h
      | ListComp elt gs scope p => exact (comp_ok (f := resE n) (ft := resT n) ie it ok h).eo
      | _ => exact no_res h
    · have key : og (plainTest e) (o1 (resE n s se sc e) .tr) = some x → TO G L sc se e x := fun h => by
        obtain ⟨c, h⟩ := og_inv h
        obtain ⟨y, h1, rfl⟩ := o1_inv h
        exact tr_to (ie ok h1) c
      cases e with
      | UnaryOp op a p =>
        cases op with
        | Not => obtain ⟨x, h1, rfl⟩ := o1_inv h; exact nt_to (it ok h1)
        | _ => exact key h
      | BoolOp op vs p => obtain ⟨x, h1, rfl⟩ := o1_inv h; exact all_to (resTL_ok (fun e x h => it ok h) h1)
      | Compare a ops bs p =>
        match ops, bs, h with
        | [op], [b], h =>
          obtain ⟨c, h⟩ := og_inv h
          obtain ⟨x, y, h1, h2, rfl⟩ := o2_inv h
          exact cmp1_to c (ie ok h1) (ie ok h2)
        | [op, op'], [b, c], h =>
          obtain ⟨c, h⟩ := og_inv h
          obtain ⟨x, y, z, h1, h2, h3, rfl⟩ := o3_inv h
          exact cmp2_to (and2 c).1 (and2 c).2 (ie ok h1) (ie ok h2) (ie ok h3)
        | [], _, h => exact key h
        | [_], [], h => exact key h
        | [_], _ :: _ :: _, h => exact key h
        | [_, _], [], h => exact key h
        | [_, _], [_], h => exact key h
        | [_, _], _ :: _ :: _ :: _, h => exact key h
        | _ :: _ :: _ :: _, _, h => exact key h
      | IfExp t a b p => obtain ⟨x, y, z, h1, h2, h3, rfl⟩ := o3_inv h; exact ife_to (it ok h1) (it ok h2) (it ok h3)
      | _ => exact key h
end

-- R12

/-! assignments -/
noncomputable def HandR (G : Ctx) (se : SEnv) (env : Env) (s : Shared) (H : AHeap) (k : Slots → AHeap → Prop) (Q : Unit → Shared → Prop) : Prop :=
  ∀ r' H' s', Same s s' → Step (Own env) H s.heap H' s'.heap → WF G.prog G.w G.B H' s'.heap → Fm G.B env (mOf se r') H' s'.heap → k r' H' → Q () s'
theorem HandR.after {G : Ctx} {se : SEnv} {env : Env} {s s₁ : Shared} {H H₁ : AHeap} {k : Slots → AHeap → Prop} {Q : Unit → Shared → Prop} (P : HandR G se env s H k Q) (sm : Same s s₁) (st : Step (Own env) H s.heap H₁ s₁.heap) : HandR G se env s₁ H₁ k Q :=
  fun m' H' s' a b c d e => P m' H' s' (sm.trans a) (st.trans b) c d e
noncomputable def AO (G : Ctx) (L : Nat) (sc : Scope) (se : SEnv) (t : Expr) (x : RA) : Prop := ∀ ⦃env : Env⦄ ⦃r : Slots⦄ ⦃H : AHeap⦄ ⦃k : Slots → AHeap → Prop⦄ ⦃A : Around⦄ ⦃s : Shared⦄ ⦃E : Value → Shared → Prop⦄ ⦃Q : Unit → Shared → Prop⦄ ⦃pv : PV⦄ ⦃v : Value⦄,
  St G L sc se env r A H s.heap → V G.B s.heap pv v → XAs G L x pv r H k → HandR G se env s H k Q → wpAny G.M A (assign t env v) Q E s

section
variable {G : Ctx} {L : Nat} {sc : Scope} {se : SEnv}

theorem name_ao {x : Str} {i : Nat} {pos : Pos} (c : (isLoc sc x || isCel sc x) = true) (e : se.lookup x = some i) : AO G L sc se (.Name x pos) (.loc i) := by
  intro env r H k A s E Q pv v S hv h P
  refine wpAny_assign_Name (store_name S.N S.F S.W c hv fun s' sm st W' F' => ?_)
  rw [← put_mOf S.inj e] at F'
  exact P _ _ _ sm st W' F' h
theorem attr_ao {o : Expr} {x : RE} {name : Str} {pos : Pos} (ho : EO G L sc se o x) : AO G L sc se (.Attribute o name pos) (.attr x name) := by
  intro env r H k A s E Q pv v S hv h P
  rw [arm_assign_Attribute]
  refine wpAny_bind (wpAny_holding (ho S h fun ov ovv H₁ s₁ sm st W₁ hov h₁ => ?_))
  refine wpAny_bind (wpAny_standAt (wpAny_bind (wpAny_holding (setAttr_ok G.ok.G G.ok.C W₁ hov (hv.step S.W st) (fun H₂ s₂ sm₂ st₂ W₂ h₂ => wpAny_release' ?_) h₁))))
  exact P _ _ _ (sm.trans sm₂) (st.trans st₂).ofNo W₂ ((S.F.step S.W st).step W₁ st₂) h₂
theorem sub_ao {o i : Expr} {x y : RE} {pos : Pos} (hs : notSlice i = true) (ho : EO G L sc se o x) (hi : EO G L sc se i y) : AO G L sc se (.Subscript o i pos) (.sub x y) := by
  intro env r H k A s E Q pv v S hv h P
  rw [arm_assign_Subscript]
  refine wpAny_bind (wpAny_holding (ho S h fun ov ovv H₁ s₁ sm st W₁ hov h₁ => ?_))
  refine wpAny_bind (wpAny_holding (hi (S.step W₁ st) h₁ fun iv ivv H₂ s₂ sm₂ st₂ W₂ hiv h₂ => ?_))
  refine wpAny_bind (wpAny_standAt (wpAny_bind (wpAny_holding (setItem_ok G.ok.G W₂ (hov.step W₁ st₂) hiv ((hv.step S.W st).step W₁ st₂) (fun H₃ s₃ sm₃ st₃ W₃ h₃ => wpAny_release' ?_) h₂))))
  exact P _ _ _ ((sm.trans sm₂).trans sm₃) ((st.trans st₂).trans st₃).ofNo W₃ (((S.F.step S.W st).step W₁ st₂).step W₂ st₃) h₃

/-- names in a row -/
inductive NO (sc : Scope) (se : SEnv) : List Expr → List Nat → Prop
  | nil : NO sc se [] []
  | cons {x i p ts is} : (isLoc sc x || isCel sc x) = true → se.lookup x = some i → NO sc se ts is → NO sc se (.Name x p :: ts) (i :: is)
theorem NO.nostar {env : Env} {ts : List Expr} {is : List Nat} (h : NO sc se ts is) : (assignEach ts env).findIdx? (·.1) = none := by
  induction h with
  | nil => rfl
  | cons _ _ _ ih =>
    show List.findIdx? _ ((false, _) :: _) = none
    rw [List.findIdx?_cons, ih]; rfl
theorem NO.go {ts : List Expr} {is : List Nat} (ho : NO sc se ts is) : ∀ {env : Env} {r : Slots} {H : AHeap} {k : Slots → AHeap → Prop} {A : Around} {s : Shared} {E : Value → Shared → Prop} {Q : Unit → Shared → Prop} {ps : List PV} {vs : List Value}, St G L sc se env r A H s.heap → VL G.B s.heap ps vs →
    puts is ps r H k → HandR G se env s H k Q → wpAny G.M A (assignInOrder ((assignEach ts env).map (·.2)) vs) Q E s := by
  induction ho with
  | nil =>
    intro env r H k A s E Q ps vs S hv h P
    cases ps with
    | nil => exact wpAny_pure (P _ _ _ (.refl _) (.refl _ _ _) S.W S.F h)
    | cons => exact h.elim
  | @cons x i p ts is hx he hr ih =>
    intro env r H k A s E Q ps vs S hv h P
    cases ps with
    | nil => exact h.elim
    | cons pv ps =>
      obtain ⟨v, vr, rfl, h1, h2⟩ := VL_cons.mp hv
      show wpAny _ _ (do holding vr (assign (.Name x p) env v); assignInOrder ((assignEach ts env).map (·.2)) vr) _ _ _
      refine wpAny_bind (wpAny_holding (name_ao (pos := p) hx he (k := fun r' H' => r' = r.put i pv ∧ H' = H) S h1 ⟨rfl, rfl⟩ fun r' H' s' sm st W' F' h' => ?_))
      obtain ⟨rfl, rfl⟩ := h'
      exact ih ⟨S.hl, S.hA, S.N, F', W', S.inj⟩ (h2.mono (st.imm S.W S.F.yi)) h (P.after sm st)
theorem puts_len : ∀ {is : List Nat} {vs : List PV} {r : Slots} {H : AHeap} {k : Slots → AHeap → Prop}, puts is vs r H k → is.length = vs.length
  | [], [], _, _, _, _ => rfl
  | _ :: _, _ :: _, _, _, _, h => congrArg (· + 1) (puts_len h)
  | [], _ :: _, _, _, _, h => h.elim
  | _ :: _, [], _, _, _, h => h.elim
theorem NO.len {ts : List Expr} {is : List Nat} (h : NO sc se ts is) : ts.length = is.length := by
  induction h with
  | nil => rfl
  | cons _ _ _ ih => exact congrArg (· + 1) ih
theorem tup_ao {ts : List Expr} {is : List Nat} {n : Nat} {pos : Pos} (ho : NO sc se ts is) : AO G L sc se (.Tuple ts n pos) (.locs is) := by
  intro env r H k A s E Q pv v S hv h P
  cases pv with
  | tup ps =>
    have h : puts is ps r H k := h
    obtain ⟨a, vs, rfl, ht, hvs⟩ := V_tup.mp hv
    rw [arm_assign_Tuple]
    refine wpAny_bind (wpAny_standAt (wpAny_unpack_tuple S.hA.handled ht (by rw [assignEach_len, ho.len, puts_len h]; exact hvs.length.symm) ho.nostar fun h' S' => ?_))
    have S₁ : Step NoX H s.heap H h' := Step.sameBut S' (.inr (get?_new _))
    have W' : WF G.prog G.w G.B H h' := S.W.sameBut S' (S.W.fresh (get?_new _)) S.W.noNew fun o e => by rw [get?_new] at e; cases e
    exact ho.go (s := { s with heap := h' }) (S.step W' S₁) (hvs.step S.W S₁) h (P.after (s₁ := { s with heap := h' }) ⟨rfl, rfl, rfl⟩ S₁.ofNo)
  | _ => exact h.elim

theorem resNames_ok : ∀ {ts : List Expr} {is : List Nat}, resNames se sc ts = some is → NO sc se ts is
  | [], _, h => by cases Option.some.inj h; exact .nil
  | t :: ts, is, h => by
    cases t with
    | Name x p =>
      obtain ⟨c, h⟩ := og_inv h
      obtain ⟨i, is, h1, h2, rfl⟩ := o2_inv h
      exact .cons c h1 (resNames_ok h2)
    | _ => exact no_res h
theorem la_ao {x : Str} {i : Nat} {o : Expr} {y : RE} {m : Str} {n : Nat} {p q pos : Pos} (c : (isLoc sc x || isCel sc x) = true) (e : se.lookup x = some i) (ho : EO G L sc se o y) : AO G L sc se (.Tuple [.Name x p, .Attribute o m q] n pos) (.la i y m) := by
  intro env r H k A s E Q pv v S hv h P
  cases pv with
  | tup ps =>
    match ps, h, hv with
    | [a, b], h, hv =>
      obtain ⟨_, vs, rfl, ht, hvs⟩ := V_tup.mp hv
      obtain ⟨va, vr, rfl, h1, h2⟩ := VL_cons.mp hvs
      obtain ⟨vb, vr', rfl, h3, h4⟩ := VL_cons.mp h2
      cases VL_nil.mp h4
      rw [arm_assign_Tuple]
      refine wpAny_bind (wpAny_standAt (wpAny_unpack_tuple S.hA.handled ht rfl rfl fun h' S' => ?_))
      have S₁ : Step NoX H s.heap H h' := Step.sameBut S' (.inr (get?_new _))
      have W' : WF G.prog G.w G.B H h' := S.W.sameBut S' (S.W.fresh (get?_new _)) S.W.noNew fun o e => by rw [get?_new] at e; cases e
      have S₂ : St G L sc se env r A H h' := S.step W' S₁
      have P := P.after (s₁ := { s with heap := h' }) ⟨rfl, rfl, rfl⟩ S₁.ofNo
      show wpAny _ _ (do holding [vb] (assign (.Name x p) env va); (do holding [] (assign (.Attribute o m q) env vb); pure ())) _ _ _
      refine wpAny_bind (wpAny_holding (name_ao (s := { s with heap := h' }) (pos := p) c e (k := fun r' H' => r' = r.put i a ∧ H' = H) S₂ (h1.step S.W S₁) ⟨rfl, rfl⟩ fun r' H' s' sm st W3 F3 e3 => ?_))
      obtain ⟨rfl, rfl⟩ := e3
      exact wpAny_bind (wpAny_holding (attr_ao (s := s') (pos := q) ho ⟨S.hl, S.hA, S.N, F3, W3, S.inj⟩ ((h3.step S.W S₁).mono (st.imm S₂.W S₂.F.yi)) h fun r' H' s' sm' st' W' F' h' => wpAny_pure ((P.after sm st) _ _ _ sm' st' W' F' h')))
    | [], h, _ => exact h.elim
    | [_], h, _ => exact h.elim
    | _ :: _ :: _ :: _, h, _ => exact h.elim
  | _ => exact h.elim
theorem attr_inv {t o : Expr} {m : Str} (h : attrOf t = some (o, m)) : ∃ p, t = .Attribute o m p := by
  cases t with
  | Attribute o m p => exact ⟨p, by cases h; rfl⟩
  | _ => exact no_res h
theorem names_ao {k : Nat} {pos : Pos} {ts : List Expr} {x : RA} (h : o1 (resNames se sc ts) .locs = some x) : AO G L sc se (.Tuple ts k pos) x := by
  obtain ⟨is, h1, rfl⟩ := o1_inv h
  exact tup_ao (resNames_ok h1)
theorem resTup_ok {n s k : Nat} {pos : Pos} (ok : envOk se = true) : ∀ {ts : List Expr} {x : RA}, resTup n s se sc ts = some x → AO G L sc se (.Tuple ts k pos) x
  | [a, b], x, h => by
    have h : (match attrOf b with | some (o, m) => _ | none => _) = some x := h
    cases q : attrOf b with
    | none =>
      rw [q] at h
      exact names_ao h
    | some v =>
      rw [q] at h
      obtain ⟨p, rfl⟩ := attr_inv q
      have h : (match nameOf a with | some x => _ | none => none) = some x := h
      cases q' : nameOf a with
      | none => rw [q'] at h; exact no_res h
      | some y =>
        rw [q'] at h
        obtain ⟨p', rfl⟩ := name_inv q'
        obtain ⟨c, h⟩ := og_inv h
        obtain ⟨i, z, h1, h2, rfl⟩ := o2_inv h
        exact la_ao c h1 ((res_ok n).1 ok h2)
  | [], _, h => names_ao h
  | [_], _, h => names_ao h
  | _ :: _ :: _ :: _, _, h => names_ao h
theorem resA_ok {n s : Nat} {t : Expr} {x : RA} (ok : envOk se = true) (h : resA n s se sc t = some x) : AO G L sc se t x := by
  cases t with
  | Name y p =>
    obtain ⟨c, h⟩ := og_inv h
    obtain ⟨i, h1, rfl⟩ := o1_inv h
    exact name_ao c h1
  | Attribute o name p => obtain ⟨y, h1, rfl⟩ := o1_inv h; exact attr_ao ((res_ok n).1 ok h1)
  | Subscript o i p =>
    obtain ⟨c, h⟩ := og_inv h
    obtain ⟨y, z, h1, h2, rfl⟩ := o2_inv h
    exact sub_ao c ((res_ok n).1 ok h1) ((res_ok n).1 ok h2)
  | Tuple ts k p => exact resTup_ok ok h
  | _ => exact no_res h
end

-- R13

noncomputable def HandS (G : Ctx) (se : SEnv) (env : Env) (s : Shared) (H : AHeap) (k : KF) (Q : Flow → Shared → Prop) : Prop :=
  ∀ fl f r' H' s', Same s s' → Step (Own env) H s.heap H' s'.heap → WF G.prog G.w G.B H' s'.heap → Fm G.B env (mOf se r') H' s'.heap → FlV G.B s'.heap fl f → k fl r' H' → Q f s'
theorem HandS.after {G : Ctx} {se : SEnv} {env : Env} {s s₁ : Shared} {H H₁ : AHeap} {k : KF} {Q : Flow → Shared → Prop} (P : HandS G se env s H k Q) (sm : Same s s₁) (st : Step (Own env) H s.heap H₁ s₁.heap) : HandS G se env s₁ H₁ k Q :=
  fun fl f r' H' s' a b c d e => P fl f r' H' s' (sm.trans a) (st.trans b) c d e
noncomputable def SO (G : Ctx) (L : Nat) (sc : Scope) (se : SEnv) (t : Stmt) (x : RS) : Prop := ∀ ⦃env : Env⦄ ⦃r : Slots⦄ ⦃H : AHeap⦄ ⦃k : KF⦄ ⦃A : Around⦄ ⦃s : Shared⦄ ⦃E : Value → Shared → Prop⦄ ⦃Q : Flow → Shared → Prop⦄,
  St G L sc se env r A H s.heap → XS G L x r H k → HandS G se env s H k Q → wpAny G.M A (exec t env) Q E s
noncomputable def SOs (G : Ctx) (L : Nat) (sc : Scope) (se : SEnv) (t : List Stmt) (x : RSs) : Prop := ∀ ⦃env : Env⦄ ⦃r : Slots⦄ ⦃H : AHeap⦄ ⦃k : KF⦄ ⦃A : Around⦄ ⦃s : Shared⦄ ⦃E : Value → Shared → Prop⦄ ⦃Q : Flow → Shared → Prop⦄,
  St G L sc se env r A H s.heap → XSs G L x r H k → HandS G se env s H k Q → wpAny G.M A (execs t env) Q E s

section
variable {G : Ctx} {L : Nat} {sc : Scope} {se : SEnv}

theorem St.own {env : Env} {r r' : Slots} {A : Around} {H H' : AHeap} {h h' : Heap} (S : St G L sc se env r A H h) (W' : WF G.prog G.w G.B H' h') (F' : Fm G.B env (mOf se r') H' h') : St G L sc se env r' A H' h' := ⟨S.hl, S.hA, S.N, F', W', S.inj⟩
theorem nil_sos : SOs G L sc se [] .nil := by
  intro env r H k A s E Q S h P
  exact wpAny_execs_nil (P .next .next r H s (.refl _) (.refl _ _ _) S.W S.F rfl h)
theorem cons_sos {t : Stmt} {ts : List Stmt} {x : RS} {xs : RSs} (ht : SO G L sc se t x) (hr : SOs G L sc se ts xs) : SOs G L sc se (t :: ts) (.cons x xs) := by
  intro env r H k A s E Q S h P
  refine wpAny_execs_cons (ht S h fun fl f r' H' s' sm st W' F' hf h' => ?_)
  cases fl with
  | next => cases hf; exact hr (S.own W' F') h' (P.after sm st)
  | brk => cases hf; exact P .brk _ _ _ _ sm st W' F' rfl h'
  | cont => cases hf; exact P .cont _ _ _ _ sm st W' F' rfl h'
  | ret v => obtain ⟨u, rfl, hu⟩ := hf; exact P (.ret v) _ _ _ _ sm st W' F' ⟨u, rfl, hu⟩ h'
theorem ret_so {e : Expr} {x : RE} {pos : Pos} (he : EO G L sc se e x) : SO G L sc se (.Return (some e) pos) (.ret x) := by
  intro env r H k A s E Q S h P
  exact wpAny_Return_some (he S h fun pv v H' s' sm st W' hv h' => P (.ret pv) _ _ _ _ sm st.ofNo W' (S.F.step S.W st) ⟨_, rfl, hv⟩ h')
theorem none_so {pos : Pos} : SO G L sc se (.Return none pos) (.ret (.val .none)) := by
  intro env r H k A s E Q S h P
  exact wpAny_Return_none (P (.ret .none) _ _ _ _ (.refl _) (.refl _ _ _) S.W S.F ⟨_, rfl, V_none.mpr rfl⟩ h)
theorem pass_so {pos : Pos} : SO G L sc se (.Pass pos) .pass := by
  intro env r H k A s E Q S h P
  exact wpAny_bind (wpAny_standAt (wpAny_pure (P .next .next _ _ _ (.refl _) (.refl _ _ _) S.W S.F rfl h)))
theorem cont_so {pos : Pos} : SO G L sc se (.Continue pos) .cont := by
  intro env r H k A s E Q S h P
  exact wpAny_bind (wpAny_standAt (wpAny_pure (P .cont .cont _ _ _ (.refl _) (.refl _ _ _) S.W S.F rfl h)))
theorem brk_so {pos : Pos} : SO G L sc se (.Break pos) .brk := by
  intro env r H k A s E Q S h P
  exact wpAny_bind (wpAny_standAt (wpAny_pure (P .brk .brk _ _ _ (.refl _) (.refl _ _ _) S.W S.F rfl h)))
theorem expr_so {e : Expr} {x : RE} {pos : Pos} (c : notComp e = true) (he : EO G L sc se e x) : SO G L sc se (.Expr e pos) (.expr x) := by
  intro env r H k A s E Q S h P
  refine wpAny_Expr_any (he S h fun pv v H' s' sm st W' hv h' => ?_) S.N.quiet (swaps_plain c)
  exact P .next _ _ _ _ sm st.ofNo W' (S.F.step S.W st) rfl h'

theorem asg_plain {t e : Expr} {y : RA} {x : RE} {pos : Pos} {env : Env} {r : Slots} {H : AHeap} {k : KF} {A : Around} {s : Shared} {E : Value → Shared → Prop} {Q : Flow → Shared → Prop} (ht : AO G L sc se t y) (he : EO G L sc se e x) (hs : swappedStores [t] e env = pure none) (hns : notStar t = true)
    (S : St G L sc se env r A H s.heap) (h : XE G L x r H (fAsg G L y r k)) (P : HandS G se env s H k Q) (hw : swapsWith e (some t) pos.line env = pure false) : wpAny G.M A (exec (.Assign [t] e pos) env) Q E s := by
  rw [arm_exec_Assign]
  show wpAny _ _ (do standAt pos; if ← swapsWith e (some t) pos.line env then _ else _) _ _ _
  rw [hw]
  refine wpAny_bind (wpAny_standAt ?_)
  rw [pure_bind, if_neg Bool.false_ne_true]
  refine wpAny_bind (he S h fun pv v H' s' sm st W' hv h' => ?_)
  rw [hs, assignEach_plain hns]
  refine wpAny_bind (wpAny_pure ?_)
  show wpAny _ _ (do assign t env v; pure Flow.next) _ _ _
  exact wpAny_bind (ht (S.step W' st) hv h' fun r' H₂ s₂ sm₂ st₂ W₂ F₂ h₂ => wpAny_pure (P .next _ _ _ _ (sm.trans sm₂) (st.ofNo.trans st₂) W₂ F₂ rfl h₂))

/-- an assignment that takes the comprehension's list before its names go -/
theorem lc_use {elt : Expr} {gs : List Comprehension} {scope : Scope} {cpos px : Pos} {y : RE} {t : Str} {i : Nat} {env : Env} {r : Slots} {H : AHeap} {k : KV} {A : Around} {s : Shared} {E Q : Value → Shared → Prop} (c : LC G L sc se (.ListComp elt gs scope cpos) y) (hx : (isLoc sc t || isCel sc t) = true) (ht : se.lookup t = some i)
    (S : St G L sc se env r A H s.heap) (h : XE G L y r H k)
    (P : ∀ pv H' s', Same s s' → Step (Own env) H s.heap H' s'.heap → WF G.prog G.w G.B H' s'.heap → Fm G.B env (mOf se (r.put i pv)) H' s'.heap → k pv H' → Q .none s') :
    wpAny G.M A (comprehension (.ListComp elt gs scope cpos) scope env (firstIterPos gs cpos) (newList []) (firstAsync gs) (firstIter gs env) (some (assign (.Name t px) env))) Q E s := by
  cases c with
  | @mk _ tt it ifs gs _ _ seI clr step x y c0 C hx' hy hm lp =>
  refine wpAny_comprehension_free (use := some (assign (.Name t px) env)) rfl (fun x => by cases it <;> first | rfl | cases c0) (closure_ok (C.cells S.N S.F)) C.kind C.locals ?_
  refine hy S (hx' _ _ _ h) fun iv v H₁ s₁ sm st W₁ hv h₁ => ?_
  have F₁ := S.F.step S.W st
  refine comp_base (K := fun acc H' => newW (.list acc) H' k) (RR := fun acc C => compPost G.M A E (some (assign (.Name t px) env)) Q acc C) C (S.step W₁ st) (hm r) hv h₁.go (fun cenv D I src full s₀ s₂ R N' fI ci so h5 hR => lp S.hl S.hA N' fI ci so h5 hR) fun D C' acc H' s' c hk => ?_
  obtain ⟨mv, hn⟩ := c.ns
  show wpAny _ _ (assign (.Name t px) env (.ref D)) _ _ _
  -- the list is now H's own
  obtain ⟨vs, n, e, hvs⟩ := c.L
  have W₂ : WF G.prog G.w G.B (H'.set D (.list acc)) s'.heap := c.W.alloc c.HD c.BD ⟨vs, n, e, hvs⟩
  have S₂ : Step NoX H₁ s₁.heap (H'.set D (.list acc)) s'.heap := c.st.alloc c.fD
  have F₂ := F₁.step W₁ S₂
  refine wpAny_assign_Name (store_name S.N F₂ W₂ hx (V_ref.mpr rfl) fun s₃ sm₃ st₃ W₃ F₃ => ?_)
  rw [← put_mOf S.inj ht] at F₃
  have HC : (H'.set D (.list acc)) C' = none := by rw [AHeap.set_other (Ne.symm c.ne)]; exact c.HC
  have nO : ¬ Own env C' := by
    rintro (q | ⟨y, q', q⟩)
    · obtain ⟨mv', ⟨o, _, _, ho, _⟩, _⟩ := F₁.ns
      rw [← q, c.fC] at ho; cases ho
    · obtain ⟨d, u, a, o, b, _⟩ := F₁.cst y q'
      rw [q] at a; cases a
      rw [c.fC] at b; cases b
  obtain ⟨o, es, ep, ho, rr⟩ := id hn
  have keep := st₃.keep _ _ ho HC nO
  refine ⟨mv, ⟨o, es, ep, keep.1, rr⟩, fun h' S' => ?_⟩
  have hn₃ : s₃.heap.Ns C' mv := ⟨o, es, ep, keep.1, rr⟩
  have neL : C' ≠ env.locals := fun q => nO (.inl q)
  refine P (.ref D) _ _ ((sm.trans (c.same.trans sm₃)).trans ⟨rfl, rfl, rfl⟩) ?_ (W₃.sameBut S'.extBut HC c.BC (Ns.notImm hn₃)) (F₃.but S'.extBut (Ns.notImm hn₃) neL (fun v q => IsCell.ne hn₃ q rfl) F₃.loc) (hk D c.HD)
  have S₃ : Step (Own env) H₁ s₁.heap (H'.set D (.list acc)) h' := (S₂.ofNo.trans st₃).atNew c.fC S'.extBut
  exact st.ofNo.trans S₃

theorem asg_comp {e : Expr} {y : RE} {t : Str} {i : Nat} {px pos : Pos} (c : LC G L sc se e y) (hx : (isLoc sc t || isCel sc t) = true) (ht : se.lookup t = some i) : SO G L sc se (.Assign [.Name t px] e pos) (.asg (.loc i) y) := by
  intro env r H k A s E Q S h P
  have q := c
  cases c with
  | @mk elt tt it ifs gs scope cpos seI clr step x y' c0 C hx' hy hm lp =>
  have hsw : swapsWith (.ListComp elt (⟨tt, it, ifs, 0⟩ :: gs) scope cpos) (some (.Name t px)) pos.line env = pure (env.blockKind == .function && env.kindOf t == some .local && px.line == cpos.line && !(scope.names.any fun (n, k) => n == t && (k == .local || k == .cell))) := rfl
  cases h2 : (env.blockKind == .function && env.kindOf t == some .local && px.line == cpos.line && !(scope.names.any fun (n, k) => n == t && (k == .local || k == .cell))) with
  | false => rw [h2] at hsw; exact asg_plain (name_ao hx ht) q.eo rfl rfl S h P hsw
  | true =>
    rw [h2] at hsw
    rw [exec_Assign_Name_used _ _ _ _ hsw]
    refine wpAny_bind (wpAny_standAt (wpAny_bind ?_))
    show wpAny _ _ (do let _ ← comprehension (.ListComp elt (⟨tt, it, ifs, 0⟩ :: gs) scope cpos) scope env (firstIterPos (⟨tt, it, ifs, 0⟩ :: gs) cpos) (newList []) (firstAsync (⟨tt, it, ifs, 0⟩ :: gs)) (firstIter (⟨tt, it, ifs, 0⟩ :: gs) env) (some (assign (.Name t px) env))) _ _ s
    exact wpAny_bind (lc_use q hx ht S h fun pv H' s' sm st W' F' h' => wpAny_pure (wpAny_pure (P .next _ _ _ _ sm st W' F' rfl h')))

theorem ite_so {t : Expr} {a b : List Stmt} {x : RT} {y z : RSs} {pos : Pos} (ht : TO G L sc se t x) (ha : SOs G L sc se a y) (hb : SOs G L sc se b z) : SO G L sc se (.If t a b pos) (.ite x y z) := by
  intro env r H k A s E Q S h P
  rw [arm_exec_If]
  refine wpAny_bind (wpAny_standAt (wpAny_bind (ht S h fun c H₁ s₁ sm st W₁ h₁ => ?_)))
  cases c with
  | true => exact ha (S.step W₁ st) (h₁.yes rfl) (P.after sm st.ofNo)
  | false => exact hb (S.step W₁ st) (h₁.no rfl) (P.after sm st.ofNo)
theorem St.marked {env : Env} {r : Slots} {A : Around} {H : AHeap} {h : Heap} (S : St G L sc se env r A H h) : St G L sc se env r (A.mark none) H h := ⟨S.hl, ⟨S.hA.handled, S.hA.depth, S.hA.units⟩, S.N, S.F, S.W, S.inj⟩
theorem wh_so {t : Expr} {a : List Stmt} {x : RT} {y : RSs} {pos : Pos} (ht : TO G L sc se t x) (ha : SOs G L sc se a y) : SO G L sc se (.While t a [] pos) (.wh x y) := by
  intro env r H k A s E Q S h P
  obtain ⟨I, ⟨n, hI⟩, h⟩ := Wh.go h
  rw [arm_exec_While]
  refine wpAny_bind (wpAny_standAt (wpAny_runOwn ?_))
  refine codeAny_whileLoop (fun n s' => ∃ r' H', Same s s' ∧ Step (Own env) H s.heap H' s'.heap ∧ WF G.prog G.w G.B H' s'.heap ∧ Fm G.B env (mOf se r') H' s'.heap ∧ I n r' H') ?_ n ⟨r, H, .refl _, .refl _ _ _, S.W, S.F, hI⟩
  rintro n s₁ ⟨r₁, H₁, sm, st, W₁, F₁, hI⟩
  have S₁ := (S.own W₁ F₁).marked
  refine ht S₁ (h n r₁ H₁ hI) fun c H₂ s₂ sm₂ st₂ W₂ h₂ => ?_
  have S₂ := S₁.step W₂ st₂
  have T := st.trans st₂.ofNo
  have M := sm.trans sm₂
  cases c with
  | true =>
    rw [if_pos rfl]
    refine ha S₂ (h₂.yes rfl) fun fl f r₃ H₃ s₃ sm₃ st₃ W₃ F₃ hf h₃ => ?_
    have T₃ := T.trans st₃
    have M₃ := M.trans sm₃
    cases fl with
    | next => cases hf; obtain ⟨n', hn, hI'⟩ := h₃; exact ⟨n', hn, r₃, H₃, M₃, T₃, W₃, F₃, hI'⟩
    | cont => cases hf; obtain ⟨n', hn, hI'⟩ := h₃; exact ⟨n', hn, r₃, H₃, M₃, T₃, W₃, F₃, hI'⟩
    | brk => cases hf; exact P .next _ _ _ _ M₃ T₃ W₃ F₃ rfl h₃
    | ret v => obtain ⟨u, rfl, hu⟩ := hf; exact P (.ret v) _ _ _ _ M₃ T₃ W₃ F₃ ⟨u, rfl, hu⟩ h₃
  | false =>
    rw [if_neg Bool.false_ne_true]
    exact wpAny_execs_nil (P .next _ _ _ _ M T W₂ S₂.F rfl (h₂.no rfl))
theorem fr_so {t it : Expr} {a : List Stmt} {x : RA} {z : RE} {y : RSs} {pos : Pos} (hns : notSet it = true) (ht : AO G L sc se t x) (hi : EO G L sc se it z) (ha : SOs G L sc se a y) : SO G L sc se (.For t it a [] pos) (.fr x z y) := by
  intro env r H k A s E Q S h P
  rw [arm_exec_For]
  refine wpAny_bind (wpAny_standAt (wpAny_bind (hi S h fun iv ivv H₁ s₁ sm st W₁ hv h₁ => ?_)))
  have hf : ∀ x, foldedSetIterable it env x = pure x := fun x => by cases it <;> first | rfl | cases hns
  rw [hf]
  refine wpAny_bind (wpAny_pure (wpAny_bind (wpAny_standAt (wpAny_bind (wpAny_holding ?_)))))
  have S₁ := S.step W₁ st
  have P₁ := P.after sm st.ofNo
  refine iter_start W₁ hv h₁.go (G.ok.G.sysn W₁) fun I xs src h₂ h2 so fI it₂ k₂ => wpAny_runOwn ?_
  have S₂ : Step NoX H₁ s₁.heap H₁ h₂ := Step.keeps k₂
  have W₂ : WF G.prog G.w G.B H₁ h₂ := W₁.keeps k₂
  have ci : FInv G.prog G.w G.B s₁ H₁ env I src xs 0 (mOf se r) H₁ { s₁ with heap := h₂ } := ⟨⟨rfl, rfl, rfl⟩, S₂.ofNo, S₁.F.step W₁ S₂, W₂, W₁.fresh fI, W₁.freshB fI, it₂⟩
  refine codeAny_forLoop_any (fun n s => ∃ i r H, n = xs.length - i ∧ i ≤ xs.length ∧ FInv G.prog G.w G.B s₁ H₁ env I src xs i (mOf se r) H s ∧ srcOk src H ∧ XForF (fStep G L x (XSs G L y)) src k (xs.drop i) r H) ?_ xs.length ⟨0, r, H₁, rfl, Nat.zero_le _, ci, so, h2⟩
  rintro n s ⟨i, r, H, rfl, hi, c, so, h⟩
  by_cases hlt : i < xs.length
  · have hp : xs[i]? = some xs[i] := List.getElem?_eq_getElem hlt
    rw [List.drop_eq_getElem_cons hlt] at h
    refine iter_item c.W so c.HI c.BI c.it hp fun v h' tk hv itn T => ?_
    have c₁ := c.moved (tk := tk) fI T itn
    refine owned_ok c₁.it ?_
    have S₃ := (S₁.own c₁.W c₁.F).marked
    refine ht S₃ hv h fun r₂ H₂ s₂ sm₂ st₂ W₂ F₂ h₂ => ?_
    have c₂ := c₁.go sm₂ st₂ W₂ F₂
    refine ha (S₃.own W₂ F₂) h₂ fun fl f r₃ H₃ s₃ sm₃ st₃ W₃ F₃ hf h₃ => ?_
    have c₃ := c₂.go sm₃ st₃ W₃ F₃
    cases fl with
    | next => cases hf; exact ⟨_, Nat.sub_lt_sub_left hlt (Nat.lt_succ_self i), i + 1, r₃, H₃, rfl, hlt, c₃, h₃.1, h₃.2⟩
    | cont => cases hf; exact ⟨_, Nat.sub_lt_sub_left hlt (Nat.lt_succ_self i), i + 1, r₃, H₃, rfl, hlt, c₃, h₃.1, h₃.2⟩
    | brk => cases hf; exact P₁ .next _ _ _ _ c₃.same c₃.st W₃ F₃ rfl h₃
    | ret v => obtain ⟨u, rfl, hu⟩ := hf; exact P₁ (.ret v) _ _ _ _ c₃.same c₃.st W₃ F₃ ⟨u, rfl, hu⟩ h₃
  · have hp : xs[i]? = none := List.getElem?_eq_none (Nat.le_of_not_lt hlt)
    rw [List.drop_eq_nil_of_le (Nat.le_of_not_lt hlt)] at h
    refine iter_end S.hA.handled c.W so c.it hp fun h' tk T => wpAny_execs_nil ?_
    exact P₁ .next _ r H _ (c.same.trans ⟨rfl, rfl, rfl⟩) (c.st.atNew fI T) (c.W.sameBut T c.HI c.BI c.ti) (c.F.but T c.ti (fun q => c.neO (.inl q)) c.notCell c.F.loc) rfl h
theorem tr_so {a : List Stmt} {hs : List ExceptHandler} {y : RSs} {pos : Pos} (ha : SOs G L sc se a y) : SO G L sc se (.Try a hs [] [] pos) (.tr y) := by
  intro env r H k A s E Q S h P
  rw [arm_exec_Try]
  refine wpAny_bind (wpAny_standAt ?_)
  delta tryStmt
  show wpAny _ _ (ite _ _ _) _ _ _
  rw [if_pos (c := ([] : List Stmt).isEmpty = true) rfl]
  refine wpAny_bind (wpAny_attempt (ha S h fun fl f r₁ H₁ s₁ sm st W₁ F₁ hf h₁ => ?_))
  cases fl with
  | next => cases hf; exact wpAny_execs_nil (P .next _ _ _ _ sm st W₁ F₁ rfl h₁)
  | brk => cases hf; exact wpAny_pure (P .brk _ _ _ _ sm st W₁ F₁ rfl h₁)
  | cont => cases hf; exact wpAny_pure (P .cont _ _ _ _ sm st W₁ F₁ rfl h₁)
  | ret v => obtain ⟨u, rfl, hu⟩ := hf; exact wpAny_pure (P (.ret v) _ _ _ _ sm st W₁ F₁ ⟨u, rfl, hu⟩ h₁)
end

-- R14

theorem ite_both {α : Type} {c : Prop} [Decidable c] {a b x : α} (p : a = x) (q : b = x) : (if c then a else b) = x := by rw [p, q, ite_self]
theorem swapped_tt {ts vs : List Expr} {x y : Nat} {p q : Pos} {env : Env} (hv : vs.all (foldedForSure 8) = true) : swappedStores [.Tuple ts x p] (.Tuple vs y q) env = pure none := by
  exact ite_both rfl (ite_both rfl (ite_both rfl (if_pos hv)))
theorem swapped_t {ts : List Expr} {x : Nat} {p : Pos} {env : Env} {e : Expr} (h : swapFree (.Tuple ts x p) e = true) : swappedStores [.Tuple ts x p] e env = pure none := by
  cases e with
  | Tuple vs y q => exact swapped_tt h
  | _ => rfl

section
variable {G : Ctx} {L : Nat} {sc : Scope} {se : SEnv}

theorem bad_so {t : Stmt} : SO G L sc se t .bad := fun _ _ _ _ _ _ _ _ _ h _ => h.elim
theorem getD_so {t : Stmt} {o : Option RS} (h : ∀ x, o = some x → SO G L sc se t x) : SO G L sc se t (o.getD .bad) := by
  cases o with
  | none => exact bad_so
  | some x => exact h x rfl
theorem map_inv {α β : Type} {o : Option α} {f : α → β} {y : β} (h : o.map f = some y) : ∃ x, o = some x ∧ y = f x := o1_inv (f := f) (by cases o <;> exact h)

theorem asg_so {t e : Expr} {y : RA} {x : RE} {n s : Nat} {pos : Pos} (ok : envOk se = true) (hs : swapFree t e = true) (hc : (notComp e || isName t) = true) (ht : resA n s se sc t = some y) (he : resE n s se sc e = some x) : SO G L sc se (.Assign [t] e pos) (.asg y x) := by
  have A := resA_ok (G := G) (L := L) ok ht
  have E := (res_ok (G := G) (L := L) n).1 ok he
  cases c : notComp e with
  | true =>
    intro env r H k Ar S Ev Q St h P
    have go : notStar t = true → swappedStores [t] e env = pure none → wpAny G.M Ar (exec (.Assign [t] e pos) env) Q Ev S := fun a b => asg_plain A E b a St h P (swaps_plain c)
    cases t with
    | Name => exact go rfl rfl
    | Attribute => exact go rfl rfl
    | Subscript => exact go rfl rfl
    | Tuple => exact go rfl (swapped_t hs)
    | _ => exact no_res ht
  | false =>
    rw [c] at hc
    cases t with
    | Name v px =>
      obtain ⟨d, ht⟩ := og_inv ht
      obtain ⟨i, h1, rfl⟩ := o1_inv ht
      cases n with
      | zero => exact no_res he
      | succ n =>
        cases e with
        | ListComp elt gs scope p => exact asg_comp (comp_ok (f := resE n) (ft := resT n) (res_ok n).1 (res_ok n).2 ok he) d h1
        | SetComp => exact no_res he
        | DictComp => exact no_res he
        | _ => cases c
    | _ => cases hc

theorem ress_ok (ok : envOk se = true) (s : Nat) : ∀ n : Nat, (∀ t, SO G L sc se t (resS n s se sc t)) ∧ (∀ ts, SOs G L sc se ts (resSs n s se sc ts))
  | 0 => ⟨fun _ => bad_so, fun _ _ _ _ _ _ _ _ _ _ h _ => h.elim⟩
  | n + 1 => by
    obtain ⟨is, iss⟩ := ress_ok ok s n
    have ie := fun {e x} => @(res_ok (G := G) (L := L) n).1 s se sc e x ok
    have it := fun {e x} => @(res_ok (G := G) (L := L) n).2 s se sc e x ok
    refine ⟨fun t => ?_, fun ts => ?_⟩
    · cases t with
      | Return e p =>
        cases e with
        | none => exact none_so
        | some e => refine getD_so fun x h => ?_; obtain ⟨y, h1, rfl⟩ := map_inv h; exact ret_so (ie h1)
      | Pass p => exact pass_so
      | Continue p => exact cont_so
      | Break p => exact brk_so
      | Expr e p => refine getD_so fun x h => ?_; obtain ⟨y, h1, rfl⟩ := map_inv h; obtain ⟨c, h1⟩ := og_inv h1; exact expr_so c (ie h1)
      | Assign ts e p =>
        match ts with
        | [t] =>
          refine getD_so fun x h => ?_
          obtain ⟨c, h⟩ := og_inv h
          obtain ⟨y, z, h1, h2, rfl⟩ := o2_inv h
          exact asg_so ok (and2 c).1 (and2 c).2 h1 h2
        | [] => exact bad_so
        | _ :: _ :: _ => exact bad_so
      | If t a b p => refine getD_so fun x h => ?_; obtain ⟨y, h1, rfl⟩ := o1_inv h; exact ite_so (it h1) (iss a) (iss b)
      | While t a b p =>
        cases b with
        | nil => refine getD_so fun x h => ?_; obtain ⟨y, h1, rfl⟩ := o1_inv h; exact wh_so (it h1) (iss a)
        | cons => exact bad_so
      | For t i a b p =>
        cases b with
        | nil =>
          refine getD_so fun x h => ?_
          obtain ⟨c, h⟩ := og_inv h
          obtain ⟨y, z, h1, h2, rfl⟩ := o2_inv h
          exact fr_so c (resA_ok ok h1) (ie h2) (iss a)
        | cons => exact bad_so
      | Try a hs b f p =>
        match b, f with
        | [], [] => exact tr_so (iss a)
        | [], _ :: _ => exact bad_so
        | _ :: _, _ => exact bad_so
      | _ => exact bad_so
    · cases ts with
      | nil => exact nil_sos
      | cons t ts => exact cons_sos (is t) (iss ts)
end

-- R15

/-- what a call gives its caller: objects may be forgotten; whnf stops here -/
structure Ret (k : KV) (v : PV) (H : AHeap) : Prop where
  go : ∃ H' : AHeap, H'.Le H ∧ k v H'
noncomputable def retR (k : KV) : KF := fun fl _ H => match fl with
  | .ret v => Ret k v H
  | .next => Ret k .none H
  | _ => False
theorem Ret.here {k : KV} {v : PV} {H : AHeap} (h : k v H) : Ret k v H := ⟨H, .refl H, h⟩
theorem Ret.to {k : KV} {v : PV} {H H' : AHeap} (le : H'.Le H) (h : k v H') : Ret k v H := ⟨H', le, h⟩
/-- the slots of a call -/
noncomputable def argS : List PV → Nat → Slots
  | [], _, _ => none
  | p :: ps, i, j => bif Nat.beq j i then some p else argS ps (i + 1) j
noncomputable def chk (se : SEnv) : List Str → Nat → Bool
  | [], _ => true
  | x :: xs, i => (se.lookup x == some i) && chk se xs (i + 1)
theorem argS_of {se : SEnv} (ok : envOk se = true) {x : Str} {j : Nat} {pv : PV} (e : se.lookup x = some j) : ∀ {xs : List Str} {ps : List PV} {i : Nat}, xs.length = ps.length → chk se xs i = true → argS ps i j = some pv → Loc.ofL xs ps x = some pv
  | [], [], _, _, _, q => by cases q
  | y :: ys, p :: ps, i, n, c, q => by
    obtain ⟨c1, c2⟩ := and2 c
    have c1 := eq_of_beq c1
    show Loc.put (Loc.ofL ys ps) y p x = some pv
    unfold Loc.put
    by_cases z : j = i
    · subst z
      cases look_inj ok e c1
      unfold argS at q
      rw [Nat.beq_refl] at q
      rw [if_pos rfl]; exact q
    · have nb : Nat.beq j i = false := by
        cases t : Nat.beq j i with
        | false => rfl
        | true => exact absurd (Nat.eq_of_beq_eq_true t) z
      unfold argS at q
      rw [nb] at q
      rw [if_neg (fun w => z (by rw [w, c1] at e; exact (Option.some.inj e).symm))]
      exact argS_of ok e (Nat.succ.inj n) c2 q

section
variable {G : Ctx} {L : Nat} {A : Around} {E : Value → Shared → Prop} {R : Result → Shared → Prop} {s : Shared} {H : AHeap}

theorem fn_codeX {a : Addr} {fd : FuncData} {body : List Stmt} {args : List PV} {vs : List Value} {se : SEnv} {r : Slots} {x : RSs} {k : KV} {R : Result → Shared → Prop} (hl : L + 1 ≤ 60) (hA : AOk L A) (hf : fnOf? (K0 G.w.params) a = some fd) (hok : fnOk (K0 G.w.params) fd = true) (hb : fd.body = .stmts body)
    (inj : envOk se = true) (hbind : BindOk G.B fd args (mOf se r)) (W : WF G.prog G.w G.B H s.heap) (hv : VL G.B s.heap args vs) (hx : SOs G (L + 1) fd.scope se body x) (h : XSs G (L + 1) x r H (retR k)) (P : HandG G s H k fun v s' => R (.ok (.ret v)) s') :
    codeAny G.M A (.call (.ref a) ⟨vs, []⟩) R s := by
  have XK : (K0 G.w.params).In s.heap := G.ok.G.X.keeps W.base
  unfold fnOf? at hf
  split at hf
  · rename_i q1 q2 fd' q3 hlk
    cases hf
    unfold fnOk at hok
    obtain ⟨hok, o8⟩ := and2 hok
    obtain ⟨hok, o7⟩ := and2 hok
    obtain ⟨hok, o6⟩ := and2 hok
    obtain ⟨hok, o5⟩ := and2 hok
    obtain ⟨hok, o4⟩ := and2 hok
    obtain ⟨o1, o2, o3⟩ := and3 hok
    have o5 := not_eq o5
    have o6 := not_eq o6
    have o4 := eq_of_beq o4
    have o2 := List.isEmpty_iff.mp o2
    have hcell : ∀ x ∈ fd.scope.names, x.2 ≠ .cell := fun x hx e => by
      have := List.all_eq_true.mp o3 x hx
      rw [e] at this; exact absurd this (by decide)
    obtain ⟨binds, hb1, hb2, hb3⟩ := hbind s vs W.base hv
    refine codeAny_call_def (binds := binds) (by have := hA.depth; show _ < 1000; omega) (XK _ _ hlk) rfl (G.ok.G.lim.keeps W.base) (codeRec_of XK o1) hb hb1 hcell hb2 (fun h₀ hns hk => ?_) o5 o6 o4
    have W₀ : WF G.prog G.w G.B H h₀ := W.keeps hk
    have ki : KeepImm s.heap h₀ := fun a o e _ => hk _ _ e
    have ec : (callEnv fd s.heap.objs.size a).cells = [] := o2
    have N : EnvOk fd.scope (callEnv fd s.heap.objs.size a) := ⟨rfl, o4, eq_of_beq o7, eq_of_beq o8⟩
    have loc : ∀ x pv, mOf se r x = some pv → fd.scope.names.lookup x = some .local := fun x pv e => by
      obtain ⟨v, a, _⟩ := hb3 x pv e
      obtain ⟨l₁, l₂, q, _⟩ := List.lookup_eq_some_iff.mp a
      have m : (x, v) ∈ binds := List.mem_reverse.mp (by rw [q]; simp)
      exact hb2 _ m
    have F : Fm G.B (callEnv fd s.heap.objs.size a) (mOf se r) H h₀ := by
      refine ⟨⟨_, hns, fun x pv e q => ?_⟩, fun x pv e => .inl (loc x pv e), fun x pv e q => absurd (loc x pv e) q, fun x q => ?_, fun x y c e => ?_, W.fresh (get?_new _), W.noNew, fun x c e => ?_⟩
      · obtain ⟨v, a, b⟩ := hb3 x pv e; exact ⟨v, a, b.mono ki⟩
      · exact absurd rfl (hcell _ (lookup_mem q))
      · rw [ec] at e; cases e
      · rw [ec] at e; cases e
    have hA' : AOk (L + 1) (A.deeper (callEnv fd s.heap.objs.size a)) := ⟨hA.handled, by have := hA.depth; show A.depth + 1 ≤ _; omega, by have := hA.units; show A.units + 3 ≤ _; omega⟩
    refine hx (s := { s with heap := h₀, toks := s.toks + binds.length }) ⟨hl, hA', N, F, W₀, inj⟩ h fun fl f r' H' s' sm st W' F' hf hk' => ?_
    have own : ∀ a', Own (callEnv fd s.heap.objs.size a) a' → s.heap.get? a' = none := by
      rintro a' (rfl | ⟨x, q, _⟩)
      · exact get?_new _
      · exact absurd rfl (hcell _ (lookup_mem q))
    have S : Step NoX H s.heap H' s'.heap := ((Step.keeps (X := Own (callEnv fd s.heap.objs.size a)) hk).trans st).drop own
    have M : Same s s' := Same.trans (b := { s with heap := h₀, toks := s.toks + binds.length }) ⟨rfl, rfl, rfl⟩ sm
    cases fl with
    | next => cases hf; obtain ⟨H'', le, hk''⟩ := Ret.go hk'; exact P .none _ H'' s' M (S.forget le) (W'.forget le) (V_none.mpr rfl) hk''
    | brk => exact hk'.elim
    | cont => exact hk'.elim
    | ret v => obtain ⟨u, rfl, hu⟩ := hf; obtain ⟨H'', le, hk''⟩ := Ret.go hk'; exact P v _ H'' s' M (S.forget le) (W'.forget le) hu hk''
  · cases hf

noncomputable def BindAt (o : Option FuncData) (xs : List Str) (vs : List Value) : Prop := match o with
  | some fd => bindArgs fd ⟨vs, []⟩ = pure (xs.zip vs)
  | none => False
/-- the plain facts of a function -/
structure FnS (P : Params) (a : Addr) (xs : List Str) (b : RSs) : Prop where
  good : goodFn (K0 P) a xs = true
  nodup : xs.Nodup
  names : chk (slots (scOf (K0 P) a)) xs 0 = true
  inj : envOk (slots (scOf (K0 P) a)) = true
  res : resF (scOf (K0 P) a) (bodyOf (K0 P) a) = b
/-- and of its arguments -/
structure FnB (P : Params) (a : Addr) (xs : List Str) (b : RSs) : Prop where
  fn : FnS P a xs b
  binds : ∀ vs : List Value, vs.length = xs.length → BindAt (fnOf? (K0 P) a) xs vs

theorem slots_bind {fd : FuncData} {xs : List Str} {args : List PV} {se : SEnv} (inj : envOk se = true) (hc : chk se xs 0 = true) (hn : xs.length = args.length) (h : BindOk G.B fd args₀ (Loc.ofL xs args)) : BindOk G.B fd args₀ (mOf se (argS args 0)) := fun s vs a b => by
  obtain ⟨binds, h1, h2, h3⟩ := h s vs a b
  refine ⟨binds, h1, h2, fun x pv e => h3 x pv ?_⟩
  cases q : se.lookup x with
  | none => rw [mOf_none q] at e; cases e
  | some j => rw [mOf_some q] at e; exact argS_of inj q hn hc e

/-- a call of a plain function, as code -/
noncomputable def CallsX (G : Ctx) (L : Nat) (a : Addr) (args : List PV) (H : AHeap) (k : KV) : Prop :=
  ∀ (A : Around) (s : Shared) (R : Result → Shared → Prop) (vs : List Value), AOk L A → WF G.prog G.w G.B H s.heap → VL G.B s.heap args vs → (HandG G s H k fun v s' => R (.ok (.ret v)) s') → codeAny G.M A (.call (.ref a) ⟨vs, []⟩) R s
theorem fn_x {T : Nat} {a : Addr} {xs : List Str} {args args₀ : List PV} {b : RSs} {k : KV} (F : FnS G.w.params a xs b) (hn : xs.length = args.length) (hT : Nat.ble (T + 1) 60 = true) (lv : Nat.ble L T = true)
    (hb : ∀ fd, fnOf? (K0 G.w.params) a = some fd → (∀ x ∈ xs, fd.scope.names.lookup x = some .local) → BindOk G.B fd args₀ (Loc.ofL xs args)) (h : XSs G (T + 1) b (argS args 0) H (retR k)) : Keep G.prog G.w G.B (.ref a) ∧ CallsX G L a args₀ H k := by
  obtain ⟨hg, nd, hc, inj, hres⟩ := F
  unfold goodFn at hg
  cases hf : fnOf? (K0 G.w.params) a with
  | none => rw [hf] at hg; cases hg
  | some fd =>
    rw [hf] at hg
    obtain ⟨g1, g2, g3⟩ := and3 hg
    have e1 : bodyOf (K0 G.w.params) a = (match fd.body with | .stmts b => b | _ => []) := by unfold bodyOf; rw [hf]; first | done | rfl
    have e2 : scOf (K0 G.w.params) a = fd.scope := by unfold scOf; rw [hf]
    rw [e2] at hc inj hres
    rw [e1] at hres
    cases hbd : fd.body with
    | stmts bd =>
      rw [hbd] at hres
      have hl : T + 1 ≤ 60 := Nat.le_of_ble_eq_true hT
      have hx : SOs G (T + 1) fd.scope (slots fd.scope) bd b := hres ▸ (ress_ok inj _ _).2 bd
      have bo := slots_bind inj hc hn (hb fd hf fun x hx => eq_of_beq (List.all_eq_true.mp g3 x hx))
      have le : L ≤ T := Nat.le_of_ble_eq_true lv
      have mono : ∀ {A : Around}, AOk L A → AOk T A := fun hA => ⟨hA.handled, Nat.le_trans hA.depth (by omega), Nat.le_trans hA.units (by omega)⟩
      exact ⟨fn_keep G.ok hf, fun A s R vs hA W hv P => fn_codeX hl (mono hA) hf g1 hbd inj bo W hv hx h P⟩
    | _ => rw [hbd] at g2; cases g2
theorem fn_x1 {a : Addr} {args : List PV} {k : KV} (c : Keep G.prog G.w G.B (.ref a) ∧ CallsX G L a args H k) : CallX G L (.ref a) args H k :=
  ⟨⟨c.1, fun A s E Q vs hA W hv P => wpAny_call (c.2 A s _ vs hA W hv P)⟩⟩
/-- a plain function is called -/
theorem fn_goX {T : Nat} {a : Addr} {xs : List Str} {args : List PV} {b : RSs} {k : KV} (F : FnB G.w.params a xs b) (h : XSs G (T + 1) b (argS args 0) H (retR k)) (lv : Nat.ble L T = true) (hn : xs.length = args.length := by rfl) (hT : Nat.ble (T + 1) 60 = true := by rfl) : CallX G L (.ref a) args H k := by
  refine fn_x1 (fn_x F.fn hn hT lv (fun fd hf hx => bind_plain F.fn.nodup (fun vs hv => ?_) hx) h)
  have := F.binds vs (hv.trans hn.symm)
  rw [hf] at this
  exact this
/-- one with its defaults -/
theorem fn_goXC {T : Nat} {a t : Addr} {xs : List Str} {args ds : List PV} {dv : List Value} {n : Nat} {b : RSs} {k : KV} (F : FnS G.w.params a xs b) (hd : ∀ fd, fnOf? (K0 G.w.params) a = some fd → fd.defaults = .ref t) (ht : (K0 G.w.params).lookup t = some { cls := .type "tuple", data := .seq dv.toArray n }) (hds : VL G.B G.B ds dv)
    (h₁ : ∀ fd, fnOf? (K0 G.w.params) a = some fd → ∀ vs : List Value, vs.length = args.length → ∃ kk : Option (Array Value) → Sem (List (Str × Value)), bindArgs fd ⟨vs, []⟩ = (seqItems? fd.defaults >>= kk) ∧ kk (some dv.toArray) = pure (xs.zip (vs ++ dv)))
    (h : XSs G (T + 1) b (argS (args ++ ds) 0) H (retR k)) (lv : Nat.ble L T = true) (hn : xs.length = (args ++ ds).length := by rfl) (hT : Nat.ble (T + 1) 60 = true := by rfl) : Keep G.prog G.w G.B (.ref a) ∧ CallsX G L a args H k :=
  fn_x F hn hT lv (fun fd hf hx => bind_dflt G.ok.G.X F.nodup (hd fd hf) ht hds (h₁ fd hf) hx) h
end

-- B1

abbrev sn (x : String) : Str := Str.ofString x
abbrev V0 : RE := .loc 0
-- Cursor___init__: (self, 0), (data, 1), (at, 2), (end, 3)
noncomputable def b88 : RSs := (.cons (.asg (.attr (.loc 0) cData) (.loc 1)) (.cons (.asg (.attr (.loc 0) cAt) (.loc 2)) (.cons (.asg (.attr (.loc 0) cEnd) (.ife (.cmp1 .Lt (.loc 3) (.val (.int 0))) (.call (.bi "len") (.cons (.loc 1) .nil)) (.call (.bi "min") (.cons (.loc 3) (.cons (.call (.bi "len") (.cons (.loc 1) .nil)) .nil))))) .nil)))
-- Cursor_is_done: (self, 0)
noncomputable def b95 : RSs := (.cons (.ret (.cmp1 .GtE (.attr (.loc 0) cAt) (.attr (.loc 0) cEnd))) .nil)
-- Cursor_peek: (self, 0), (ahead, 1), (place, 2)
noncomputable def b103 : RSs := (.cons (.asg (.loc 2) (.bin .Add (.attr (.loc 0) cAt) (.loc 1))) (.cons (.ret (.ife (.cmp2 .LtE .Lt (.val (.int 0)) (.loc 2) (.attr (.loc 0) cEnd)) (.sub (.attr (.loc 0) cData) (.loc 2)) (.neg (.val (.int 1))))) .nil))
-- Cursor_take: (self, 0), (code, 1)
noncomputable def b110 : RSs := (.cons (.asg (.loc 1) (.meth (.loc 0) (sn "peek") .nil)) (.cons (.ite (.cmp1 .GtE (.loc 1) (.val (.int 0))) (.cons (.asg (.attr (.loc 0) cAt) (.bin .Add (.attr (.loc 0) cAt) (.val (.int 1)))) .nil) .nil) (.cons (.ret (.loc 1)) .nil)))
-- lower_code: (code, 0)
noncomputable def b166 : RSs := (.cons (.ret (.ife (.cmp2 .LtE .LtE (.val (.int 65)) (.loc 0) (.val (.int 90))) (.bin .Add (.loc 0) (.val (.int 32))) (.loc 0))) .nil)
-- lower: (octets, 0)
noncomputable def b171 : RSs := (.cons (.ret (.call (.ty "bytes") (.cons (.comp1 (.call (.ref 166) (.cons (.loc 1) .nil)) 1 (.loc 0)) .nil))) .nil)
-- lower_text: (text, 0)
noncomputable def b176 : RSs := (.cons (.ret (.meth (.val (.str (cs ""))) (sn "join") (.cons (.comp1 (.call (.bi "chr") (.cons (.call (.ref 166) (.cons (.call (.bi "ord") (.cons (.loc 1) .nil)) .nil)) .nil)) 1 (.loc 0)) .nil))) .nil)
-- charset_names: (found, 0), (alias, 1)
noncomputable def b184 : RSs := (.cons (.asg (.loc 0) .dict0) (.cons (.fr (.loc 1) (.tup (.cons (.val (.str (cs "us-ascii"))) (.cons (.val (.str (cs "ascii"))) (.cons (.val (.str (cs "ansi_x3.4-1968"))) (.cons (.val (.str (cs "iso_646.irv:1991"))) (.cons (.val (.str (cs "iso-ir-6"))) (.cons (.val (.str (cs "iso646-us"))) (.cons (.val (.str (cs "us"))) (.cons (.val (.str (cs "cp367"))) (.cons (.val (.str (cs "ibm367"))) .nil)))))))))) (.cons (.asg (.sub (.loc 0) (.loc 1)) (.val (.str (cs "us-ascii")))) .nil)) (.cons (.fr (.loc 1) (.tup (.cons (.val (.str (cs "iso-8859-1"))) (.cons (.val (.str (cs "iso_8859-1"))) (.cons (.val (.str (cs "iso_8859-1:1987"))) (.cons (.val (.str (cs "iso-ir-100"))) (.cons (.val (.str (cs "latin1"))) (.cons (.val (.str (cs "l1"))) (.cons (.val (.str (cs "cp819"))) (.cons (.val (.str (cs "ibm819"))) .nil))))))))) (.cons (.asg (.sub (.loc 0) (.loc 1)) (.val (.str (cs "iso-8859-1")))) .nil)) (.cons (.fr (.loc 1) (.tup (.cons (.val (.str (cs "utf-8"))) (.cons (.val (.str (cs "utf8"))) .nil))) (.cons (.asg (.sub (.loc 0) (.loc 1)) (.val (.str (cs "utf-8")))) .nil)) (.cons (.ret (.loc 0)) .nil)))))
-- charset_name: (text, 0)
noncomputable def b191 : RSs := (.cons (.ret (.meth (.call (.ref 184) .nil) (sn "get") (.cons (.call (.ref 176) (.cons (.loc 0) .nil)) (.cons (.val (.str (cs ""))) .nil)))) .nil)
-- need_charset: (charset, 0)
noncomputable def b198 : RSs := (.cons (.ite (.cmp1 .NotIn (.loc 0) (.val (.tup [(.str (cs "us-ascii")), (.str (cs "iso-8859-1")), (.str (cs "utf-8"))]))) (.cons .bad .nil) .nil) .nil)
-- follower_span: (lead, 0)
noncomputable def b205 : RSs := (.cons (.ite (.cmp2 .LtE .LtE (.val (.int 194)) (.loc 0) (.val (.int 223))) (.cons (.ret (.tup (.cons (.val (.int 128)) (.cons (.val (.int 191)) (.cons (.val (.int 1)) .nil))))) .nil) .nil) (.cons (.ite (.cmp2 .LtE .LtE (.val (.int 224)) (.loc 0) (.val (.int 239))) (.cons (.ret (.tup (.cons (.meth (.dict1 (.val (.int 224)) (.val (.int 160))) (sn "get") (.cons (.loc 0) (.cons (.val (.int 128)) .nil))) (.cons (.meth (.dict1 (.val (.int 237)) (.val (.int 159))) (sn "get") (.cons (.loc 0) (.cons (.val (.int 191)) .nil))) (.cons (.val (.int 2)) .nil))))) .nil) .nil) (.cons (.ite (.cmp2 .LtE .LtE (.val (.int 240)) (.loc 0) (.val (.int 244))) (.cons (.ret (.tup (.cons (.meth (.dict1 (.val (.int 240)) (.val (.int 144))) (sn "get") (.cons (.loc 0) (.cons (.val (.int 128)) .nil))) (.cons (.meth (.dict1 (.val (.int 244)) (.val (.int 143))) (sn "get") (.cons (.loc 0) (.cons (.val (.int 191)) .nil))) (.cons (.val (.int 3)) .nil))))) .nil) .nil) (.cons (.ret (.tup (.cons (.val (.int 0)) (.cons (.val (.int 0)) (.cons (.val (.int 0)) .nil))))) .nil))))
-- utf8_sign: (octets, 0), (at, 1), (lead, 2), (least, 3), (most, 4), (count, 5), (code, 6), (place, 7)
noncomputable def b212 : RSs := (.cons (.asg (.loc 2) (.sub (.loc 0) (.loc 1))) (.cons (.ite (.cmp1 .Lt (.loc 2) (.val (.int 128))) (.cons (.ret (.tup (.cons (.loc 2) (.cons (.val (.int 1)) .nil)))) .nil) .nil) (.cons (.asg (.locs [3, 4, 5]) (.call (.ref 205) (.cons (.loc 2) .nil))) (.cons (.ite (.cmp1 .Eq (.loc 5) (.val (.int 0))) (.cons (.ret (.tup (.cons (.neg (.val (.int 1))) (.cons (.val (.int 1)) .nil)))) .nil) .nil) (.cons (.asg (.loc 6) (.bin .Mod (.loc 2) (.bin .RShift (.val (.int 64)) (.loc 5)))) (.cons (.fr (.loc 7) (.call (.ty "range") (.cons (.val (.int 1)) (.cons (.bin .Add (.loc 5) (.val (.int 1))) .nil))) (.cons (.ite (.all .Or (.cons (.cmp1 .GtE (.bin .Add (.loc 1) (.loc 7)) (.call (.bi "len") (.cons (.loc 0) .nil))) (.cons (.nt (.cmp2 .LtE .LtE (.loc 3) (.sub (.loc 0) (.bin .Add (.loc 1) (.loc 7))) (.loc 4))) .nil))) (.cons (.ret (.tup (.cons (.neg (.val (.int 1))) (.cons (.loc 7) .nil)))) .nil) .nil) (.cons (.asg (.loc 6) (.bin .Add (.bin .Mult (.loc 6) (.val (.int 64))) (.bin .Mod (.sub (.loc 0) (.bin .Add (.loc 1) (.loc 7))) (.val (.int 64))))) (.cons (.asg (.locs [3, 4]) (.tup (.cons (.val (.int 128)) (.cons (.val (.int 191)) .nil)))) .nil)))) (.cons (.ret (.tup (.cons (.loc 6) (.cons (.bin .Add (.loc 5) (.val (.int 1))) .nil)))) .nil)))))))
-- sign_at: (charset, 0), (octets, 1), (at, 2)
noncomputable def b219 : RSs := (.cons (.ite (.cmp1 .Eq (.loc 0) (.val (.str (cs "utf-8")))) (.cons (.ret (.call (.ref 212) (.cons (.loc 1) (.cons (.loc 2) .nil)))) .nil) .nil) (.cons (.ite (.all .And (.cons (.cmp1 .Eq (.loc 0) (.val (.str (cs "us-ascii")))) (.cons (.cmp1 .Gt (.sub (.loc 1) (.loc 2)) (.val (.int 127))) .nil))) (.cons (.ret (.tup (.cons (.neg (.val (.int 1))) (.cons (.val (.int 1)) .nil)))) .nil) .nil) (.cons (.ret (.tup (.cons (.sub (.loc 1) (.loc 2)) (.cons (.val (.int 1)) .nil)))) .nil)))
-- text_in: (charset, 0), (octets, 1), (signs, 2), (at, 3), (code, 4), (length, 5)
noncomputable def b226 : RSs := (.cons (.expr (.call (.ref 198) (.cons (.loc 0) .nil))) (.cons (.asg (.loc 2) (.list .nil)) (.cons (.asg (.loc 3) (.val (.int 0))) (.cons (.wh (.cmp1 .Lt (.loc 3) (.call (.bi "len") (.cons (.loc 1) .nil))) (.cons (.asg (.locs [4, 5]) (.call (.ref 219) (.cons (.loc 0) (.cons (.loc 1) (.cons (.loc 3) .nil))))) (.cons (.expr (.meth (.loc 2) (sn "append") (.cons (.ife (.cmp1 .GtE (.loc 4) (.val (.int 0))) (.call (.bi "chr") (.cons (.loc 4) .nil)) (.val (.str [65533]))) .nil))) (.cons (.asg (.loc 3) (.bin .Add (.loc 3) (.loc 5))) .nil)))) (.cons (.ret (.meth (.val (.str (cs ""))) (sn "join") (.cons (.loc 2) .nil))) .nil)))))
-- strict_text: (charset, 0), (octets, 1), (signs, 2), (at, 3), (code, 4), (length, 5)
noncomputable def b233 : RSs := (.cons (.expr (.call (.ref 198) (.cons (.loc 0) .nil))) (.cons (.asg (.loc 2) (.list .nil)) (.cons (.asg (.loc 3) (.val (.int 0))) (.cons (.wh (.cmp1 .Lt (.loc 3) (.call (.bi "len") (.cons (.loc 1) .nil))) (.cons (.asg (.locs [4, 5]) (.call (.ref 219) (.cons (.loc 0) (.cons (.loc 1) (.cons (.loc 3) .nil))))) (.cons (.ite (.cmp1 .Lt (.loc 4) (.val (.int 0))) (.cons .bad .nil) .nil) (.cons (.expr (.meth (.loc 2) (sn "append") (.cons (.call (.bi "chr") (.cons (.loc 4) .nil)) .nil))) (.cons (.asg (.loc 3) (.bin .Add (.loc 3) (.loc 5))) .nil))))) (.cons (.ret (.meth (.val (.str (cs ""))) (sn "join") (.cons (.loc 2) .nil))) .nil)))))
-- guessed_text: (octets, 0)
noncomputable def b240 : RSs := (.cons (.tr (.cons (.ret (.call (.ref 233) (.cons (.val (.str (cs "utf-8"))) (.cons (.loc 0) .nil)))) .nil)) .nil)
-- line_end: (data, 0), (at, 1)
noncomputable def b248 : RSs := (.cons (.ite (.cmp1 .Eq (.slice (.loc 0) (.loc 1) (.bin .Add (.loc 1) (.val (.int 1))) (.val .none)) (.val (.bytes [10]))) (.cons (.ret (.bin .Add (.loc 1) (.val (.int 1)))) .nil) .nil) (.cons (.ret (.ife (.cmp1 .Eq (.slice (.loc 0) (.loc 1) (.bin .Add (.loc 1) (.val (.int 2))) (.val .none)) (.val (.bytes [13, 10]))) (.bin .Add (.loc 1) (.val (.int 2))) (.neg (.val (.int 1))))) .nil))
-- inside_at: (data, 0), (at, 1), (begun, 2), (behind, 3)
noncomputable def b255 : RSs := (.cons (.ite (.all .Or (.cons (.cmp1 .GtE (.loc 1) (.call (.bi "len") (.cons (.loc 0) .nil))) (.cons (.all .And (.cons (.cmp1 .Eq (.sub (.loc 0) (.loc 1)) (.val (.int 92))) (.cons (.cmp1 .Eq (.bin .Add (.loc 1) (.val (.int 1))) (.call (.bi "len") (.cons (.loc 0) .nil))) .nil))) .nil))) (.cons .bad .nil) .nil) (.cons (.ite (.cmp1 .Eq (.sub (.loc 0) (.loc 1)) (.val (.int 92))) (.cons (.ite (.cmp1 .In (.sub (.loc 0) (.bin .Add (.loc 1) (.val (.int 1)))) (.val (.tup [(.int 0), (.int 10), (.int 13)]))) (.cons .bad .nil) .nil) (.cons (.ret (.tup (.cons (.slice (.loc 0) (.bin .Add (.loc 1) (.val (.int 1))) (.bin .Add (.loc 1) (.val (.int 2))) (.val .none)) (.cons (.bin .Add (.loc 1) (.val (.int 2))) .nil)))) .nil)) .nil) (.cons (.asg (.loc 3) (.call (.ref 248) (.cons (.loc 0) (.cons (.loc 1) .nil)))) (.cons (.ite (.cmp1 .GtE (.loc 3) (.val (.int 0))) (.cons (.ret (.tup (.cons (.val (.bytes [])) (.cons (.loc 3) .nil)))) .nil) .nil) (.cons (.ite (.cmp1 .In (.sub (.loc 0) (.loc 1)) (.val (.tup [(.int 0), (.int 10), (.int 13)]))) (.cons .bad .nil) .nil) (.cons (.ret (.tup (.cons (.slice (.loc 0) (.loc 1) (.bin .Add (.loc 1) (.val (.int 1))) (.val .none)) (.cons (.bin .Add (.loc 1) (.val (.int 1))) .nil)))) .nil))))))
-- closed_at: (data, 0), (begun, 1), (closing, 2), (barred, 3), (parts, 4), (at, 5), (octets, 6)
noncomputable def b262 : RSs := (.cons (.asg (.loc 4) (.list .nil)) (.cons (.asg (.loc 5) (.bin .Add (.loc 1) (.val (.int 1)))) (.cons (.wh (.cmp1 .NotEq (.slice (.loc 0) (.loc 5) (.bin .Add (.loc 5) (.val (.int 1))) (.val .none)) (.loc 2)) (.cons (.ite (.all .And (.cons (.cmp1 .Lt (.loc 5) (.call (.bi "len") (.cons (.loc 0) .nil))) (.cons (.cmp1 .In (.sub (.loc 0) (.loc 5)) (.loc 3)) .nil))) (.cons .bad .nil) .nil) (.cons (.asg (.locs [6, 5]) (.call (.ref 255) (.cons (.loc 0) (.cons (.loc 5) (.cons (.loc 1) .nil))))) (.cons (.expr (.meth (.loc 4) (sn "append") (.cons (.loc 6) .nil))) .nil)))) (.cons (.ret (.tup (.cons (.meth (.val (.bytes [])) (sn "join") (.cons (.loc 4) .nil)) (.cons (.bin .Add (.loc 5) (.val (.int 1))) .nil)))) .nil))))
-- is_token_code: (code, 0)
noncomputable def b277 : RSs := (.cons (.ret (.bool .And (.cons (.cmp2 .Lt .Lt (.val (.int 32)) (.loc 0) (.val (.int 127))) (.cons (.cmp1 .NotIn (.loc 0) (.val (.bytes [40, 41, 60, 62, 64, 44, 59, 58, 92, 34, 47, 91, 93, 63, 61]))) .nil)))) .nil)
-- skip_between: (cursor, 0)
noncomputable def b284 : RSs := (.cons (.wh (.nt (.tr (.meth (.loc 0) (sn "is_done") .nil))) (.cons (.ite (.cmp1 .In (.meth (.loc 0) (sn "peek") .nil) (.val (.tup [(.int 9), (.int 10), (.int 13), (.int 32)]))) (.cons (.expr (.meth (.loc 0) (sn "take") .nil)) .nil) (.cons (.ite (.cmp1 .Eq (.meth (.loc 0) (sn "peek") .nil) (.val (.int 40))) (.cons (.asg (.attr (.loc 0) cAt) (.sub (.call (.ref 269) (.cons (.attr (.loc 0) cData) (.cons (.attr (.loc 0) cAt) .nil))) (.val (.int 1)))) .nil) (.cons (.ret (.val .none)) .nil)) .nil)) .nil)) .nil)
-- take_token: (cursor, 0), (first, 1)
noncomputable def b291 : RSs := (.cons (.asg (.loc 1) (.attr (.loc 0) cAt)) (.cons (.wh (.tr (.call (.ref 277) (.cons (.meth (.loc 0) (sn "peek") .nil) .nil))) (.cons (.expr (.meth (.loc 0) (sn "take") .nil)) .nil)) (.cons (.ite (.cmp1 .Eq (.attr (.loc 0) cAt) (.loc 1)) (.cons .bad .nil) .nil) (.cons (.ret (.slice (.attr (.loc 0) cData) (.loc 1) (.attr (.loc 0) cAt) (.val .none))) .nil))))
-- is_worth_code: (code, 0)
noncomputable def b298 : RSs := (.cons (.ret (.bool .Or (.cons (.cmp1 .Gt (.loc 0) (.val (.int 127))) (.cons (.call (.ref 277) (.cons (.loc 0) .nil)) .nil)))) .nil)
-- take_worth: (cursor, 0), (worth, 1), (first, 2)
noncomputable def b305 : RSs := (.cons (.ite (.cmp1 .Eq (.meth (.loc 0) (sn "peek") .nil) (.val (.int 34))) (.cons (.asg (.la 1 (.loc 0) cAt) (.call (.ref 262) (.cons (.attr (.loc 0) cData) (.cons (.attr (.loc 0) cAt) (.cons (.val (.bytes [34])) (.cons (.val (.bytes [])) .nil)))))) (.cons (.ret (.loc 1)) .nil)) .nil) (.cons (.asg (.loc 2) (.attr (.loc 0) cAt)) (.cons (.wh (.tr (.call (.ref 298) (.cons (.meth (.loc 0) (sn "peek") .nil) .nil))) (.cons (.expr (.meth (.loc 0) (sn "take") .nil)) .nil)) (.cons (.ite (.cmp1 .Eq (.attr (.loc 0) cAt) (.loc 2)) (.cons .bad .nil) .nil) (.cons (.ret (.slice (.attr (.loc 0) cData) (.loc 2) (.attr (.loc 0) cAt) (.val .none))) .nil)))))
-- small_word: (octets, 0)
noncomputable def b310 : RSs := (.cons (.ret (.meth (.val (.str (cs ""))) (sn "join") (.cons (.comp1 (.call (.bi "chr") (.cons (.loc 1) .nil)) 1 (.call (.ref 171) (.cons (.loc 0) .nil))) .nil))) .nil)
-- take_pairs: (cursor, 0), (pairs, 1), (name, 2)
noncomputable def b317 : RSs := (.cons (.asg (.loc 1) (.list .nil)) (.cons (.expr (.call (.ref 284) (.cons (.loc 0) .nil))) (.cons (.wh (.nt (.tr (.meth (.loc 0) (sn "is_done") .nil))) (.cons (.ite (.cmp1 .NotEq (.meth (.loc 0) (sn "take") .nil) (.val (.int 59))) (.cons .bad .nil) .nil) (.cons (.expr (.call (.ref 284) (.cons (.loc 0) .nil))) (.cons (.ite (.all .And (.cons (.nt (.tr (.meth (.loc 0) (sn "is_done") .nil))) (.cons (.cmp1 .NotEq (.meth (.loc 0) (sn "peek") .nil) (.val (.int 59))) .nil))) (.cons (.asg (.loc 2) (.call (.ref 310) (.cons (.call (.ref 291) (.cons (.loc 0) .nil)) .nil))) (.cons (.expr (.call (.ref 284) (.cons (.loc 0) .nil))) (.cons (.ite (.cmp1 .NotEq (.meth (.loc 0) (sn "take") .nil) (.val (.int 61))) (.cons .bad .nil) .nil) (.cons (.expr (.call (.ref 284) (.cons (.loc 0) .nil))) (.cons (.expr (.meth (.loc 1) (sn "append") (.cons (.tup (.cons (.loc 2) (.cons (.call (.ref 305) (.cons (.loc 0) .nil)) .nil))) .nil))) (.cons (.expr (.call (.ref 284) (.cons (.loc 0) .nil))) .nil)))))) .nil) .nil)))) (.cons (.ret (.loc 1)) .nil))))
-- part_number: (figures, 0), (number, 1), (sign, 2)
noncomputable def b324 : RSs := (.cons (.ite (.all .Or (.cons (.cmp1 .Eq (.loc 0) (.val (.str (cs "")))) (.cons (.cmp1 .Gt (.call (.bi "len") (.cons (.loc 0) .nil)) (.val (.int 3))) (.cons (.all .And (.cons (.cmp1 .Eq (.sub (.loc 0) (.val (.int 0))) (.val (.str (cs "0")))) (.cons (.cmp1 .Gt (.call (.bi "len") (.cons (.loc 0) .nil)) (.val (.int 1))) .nil))) .nil)))) (.cons (.ret (.neg (.val (.int 1)))) .nil) .nil) (.cons (.asg (.loc 1) (.val (.int 0))) (.cons (.fr (.loc 2) (.loc 0) (.cons (.ite (.nt (.cmp2 .LtE .LtE (.val (.str (cs "0"))) (.loc 2) (.val (.str (cs "9"))))) (.cons (.ret (.neg (.val (.int 1)))) .nil) .nil) (.cons (.asg (.loc 1) (.bin .Sub (.bin .Add (.bin .Mult (.val (.int 10)) (.loc 1)) (.call (.bi "ord") (.cons (.loc 2) .nil))) (.val (.int 48)))) .nil))) (.cons (.ret (.loc 1)) .nil))))
-- part_of: (name, 0), (spot, 1), (is_encoded, 2), (number, 3)
noncomputable def b331 : RSs := (.cons (.asg (.loc 1) (.meth (.loc 0) (sn "find") (.cons (.val (.str (cs "*"))) .nil))) (.cons (.ite (.cmp1 .Lt (.loc 1) (.val (.int 1))) (.cons (.ret (.val .none)) .nil) .nil) (.cons (.asg (.loc 2) (.cmp1 .Eq (.sub (.loc 0) (.neg (.val (.int 1)))) (.val (.str (cs "*"))))) (.cons (.ite (.all .And (.cons (.tr (.loc 2)) (.cons (.cmp1 .Eq (.loc 1) (.bin .Sub (.call (.bi "len") (.cons (.loc 0) .nil)) (.val (.int 1)))) .nil))) (.cons (.ret (.tup (.cons (.slice (.loc 0) (.val .none) (.loc 1) (.val .none)) (.cons (.val (.int 0)) (.cons (.val (.bool true)) .nil))))) .nil) .nil) (.cons (.asg (.loc 3) (.call (.ref 324) (.cons (.ife (.tr (.loc 2)) (.slice (.loc 0) (.bin .Add (.loc 1) (.val (.int 1))) (.bin .Sub (.call (.bi "len") (.cons (.loc 0) .nil)) (.val (.int 1))) (.val .none)) (.slice (.loc 0) (.bin .Add (.loc 1) (.val (.int 1))) (.val .none) (.val .none))) .nil))) (.cons (.ret (.ife (.cmp1 .GtE (.loc 3) (.val (.int 0))) (.tup (.cons (.slice (.loc 0) (.val .none) (.loc 1) (.val .none)) (.cons (.loc 3) (.cons (.loc 2) .nil)))) (.val .none))) .nil))))))
-- hex_worth: (octets, 0), (figures, 1)
noncomputable def b336 : RSs := (.cons (.asg (.loc 1) (.call (.ty "bytes") (.cons (.comp1 (.ife (.cmp2 .LtE .LtE (.val (.int 97)) (.loc 2) (.val (.int 102))) (.bin .Sub (.loc 2) (.val (.int 32))) (.loc 2)) 2 (.loc 0)) .nil))) (.cons (.ite (.all .Or (.cons (.cmp1 .NotEq (.call (.bi "len") (.cons (.loc 1) .nil)) (.val (.int 2))) (.cons (.cmp1 .NotIn (.sub (.loc 1) (.val (.int 0))) (.val (.bytes [48, 49, 50, 51, 52, 53, 54, 55, 56, 57, 65, 66, 67, 68, 69, 70]))) (.cons (.cmp1 .NotIn (.sub (.loc 1) (.val (.int 1))) (.val (.bytes [48, 49, 50, 51, 52, 53, 54, 55, 56, 57, 65, 66, 67, 68, 69, 70]))) .nil)))) (.cons (.ret (.neg (.val (.int 1)))) .nil) .nil) (.cons (.ret (.bin .Add (.bin .Mult (.val (.int 16)) (.meth (.val (.bytes [48, 49, 50, 51, 52, 53, 54, 55, 56, 57, 65, 66, 67, 68, 69, 70])) (sn "index") (.cons (.sub (.loc 1) (.val (.int 0))) .nil))) (.meth (.val (.bytes [48, 49, 50, 51, 52, 53, 54, 55, 56, 57, 65, 66, 67, 68, 69, 70])) (sn "index") (.cons (.sub (.loc 1) (.val (.int 1))) .nil)))) .nil)))
-- percent_decoded: (octets, 0), (found, 1), (at, 2), (worth, 3)
noncomputable def b343 : RSs := (.cons (.asg (.loc 1) (.list .nil)) (.cons (.asg (.loc 2) (.val (.int 0))) (.cons (.wh (.cmp1 .Lt (.loc 2) (.call (.bi "len") (.cons (.loc 0) .nil))) (.cons (.asg (.loc 3) (.ife (.cmp1 .Eq (.sub (.loc 0) (.loc 2)) (.val (.int 37))) (.call (.ref 336) (.cons (.slice (.loc 0) (.bin .Add (.loc 2) (.val (.int 1))) (.bin .Add (.loc 2) (.val (.int 3))) (.val .none)) .nil)) (.neg (.val (.int 1))))) (.cons (.expr (.meth (.loc 1) (sn "append") (.cons (.ife (.cmp1 .Lt (.loc 3) (.val (.int 0))) (.sub (.loc 0) (.loc 2)) (.loc 3)) .nil))) (.cons (.asg (.loc 2) (.bin .Add (.loc 2) (.ife (.cmp1 .Lt (.loc 3) (.val (.int 0))) (.val (.int 1)) (.val (.int 3))))) .nil)))) (.cons (.ret (.call (.ty "bytes") (.cons (.loc 1) .nil))) .nil))))
-- charset_cut: (octets, 0), (pieces, 1)
noncomputable def b348 : RSs := (.cons (.asg (.loc 1) (.meth (.loc 0) (sn "split") (.cons (.val (.bytes [39])) (.cons (.val (.int 2)) .nil)))) (.cons (.ite (.cmp1 .Lt (.call (.bi "len") (.cons (.loc 1) .nil)) (.val (.int 3))) (.cons (.ret (.tup (.cons (.val (.str (cs ""))) (.cons (.loc 0) .nil)))) .nil) .nil) (.cons (.ret (.tup (.cons (.call (.ref 191) (.cons (.meth (.val (.str (cs ""))) (sn "join") (.cons (.comp1 (.call (.bi "chr") (.cons (.loc 2) .nil)) 2 (.sub (.loc 1) (.val (.int 0)))) .nil)) .nil)) (.cons (.sub (.loc 1) (.val (.int 2))) .nil)))) .nil)))
-- joined_worth: (parts, 0), (charset, 1), (octets, 2), (number, 3), (is_encoded, 4), (worth, 5)
noncomputable def b355 : RSs := (.cons (.asg (.loc 1) (.val (.str (cs "")))) (.cons (.asg (.loc 2) (.val (.bytes []))) (.cons (.asg (.loc 3) (.val (.int 0))) (.cons (.wh (.cmp1 .In (.loc 3) (.loc 0)) (.cons (.asg (.locs [4, 5]) (.sub (.loc 0) (.loc 3))) (.cons (.ite (.all .And (.cons (.cmp1 .Eq (.loc 3) (.val (.int 0))) (.cons (.tr (.loc 4)) .nil))) (.cons (.asg (.locs [1, 5]) (.call (.ref 348) (.cons (.loc 5) .nil))) .nil) .nil) (.cons (.asg (.loc 2) (.bin .Add (.loc 2) (.ife (.tr (.loc 4)) (.call (.ref 343) (.cons (.loc 5) .nil)) (.loc 5)))) (.cons (.asg (.loc 3) (.bin .Add (.loc 3) (.val (.int 1)))) .nil))))) (.cons (.ret (.ife (.tr (.loc 1)) (.call (.ref 226) (.cons (.loc 1) (.cons (.loc 2) .nil))) (.call (.ref 240) (.cons (.loc 2) .nil)))) .nil)))))
-- params_of: (pairs, 0), (plain, 1), (parted, 2), (name, 3), (worth, 4), (part, 5), (base, 6), (number, 7), (is_encoded, 8)
noncomputable def b362 : RSs := (.cons (.asg (.loc 1) .dict0) (.cons (.asg (.loc 2) .dict0) (.cons (.fr (.locs [3, 4]) (.loc 0) (.cons (.asg (.loc 5) (.call (.ref 331) (.cons (.loc 3) .nil))) (.cons (.ite (.cmp1 .Is (.loc 5) (.val .none)) (.cons (.ite (.cmp1 .NotIn (.loc 3) (.loc 1)) (.cons (.asg (.sub (.loc 1) (.loc 3)) (.call (.ref 240) (.cons (.loc 4) .nil))) .nil) .nil) .nil) (.cons (.asg (.locs [6, 7, 8]) (.loc 5)) (.cons (.ite (.cmp1 .NotIn (.loc 6) (.loc 2)) (.cons (.asg (.sub (.loc 2) (.loc 6)) .dict0) .nil) .nil) (.cons (.ite (.cmp1 .NotIn (.loc 7) (.sub (.loc 2) (.loc 6))) (.cons (.asg (.sub (.sub (.loc 2) (.loc 6)) (.loc 7)) (.tup (.cons (.loc 8) (.cons (.loc 4) .nil)))) .nil) .nil) .nil)))) .nil))) (.cons (.fr (.loc 6) (.loc 2) (.cons (.ite (.cmp1 .In (.val (.int 0)) (.sub (.loc 2) (.loc 6))) (.cons (.asg (.sub (.loc 1) (.loc 6)) (.call (.ref 355) (.cons (.sub (.loc 2) (.loc 6)) .nil))) .nil) .nil) .nil)) (.cons (.ret (.loc 1)) .nil)))))
-- read_value: (octets, 0), (cursor, 1), (word, 2)
noncomputable def b369 : RSs := (.cons (.asg (.loc 1) (.call (.ref 155) (.cons (.loc 0) .nil))) (.cons (.expr (.call (.ref 284) (.cons (.loc 1) .nil))) (.cons (.asg (.loc 2) (.call (.ref 310) (.cons (.call (.ref 291) (.cons (.loc 1) .nil)) .nil))) (.cons (.ret (.tup (.cons (.loc 2) (.cons (.call (.ref 362) (.cons (.call (.ref 317) (.cons (.loc 1) .nil)) .nil)) .nil)))) .nil))))
-- _law_pot: (script, 0), (cell, 1), (cells, 2), (state, 3)
noncomputable def b374 : RSs := (.cons (.asg (.loc 2) (.comp1 (.call (.ty "int") (.cons (.loc 4) .nil)) 4 (.slice (.loc 0) (.val .none) (.val (.int 40)) (.val .none)))) (.cons (.asg (.loc 3) (.val (.int 1))) (.cons (.fr (.loc 1) (.loc 2) (.cons (.asg (.loc 3) (.bin .Mod (.bin .Add (.bin .Add (.bin .Mult (.loc 3) (.val (.int 48271))) (.bin .Mod (.loc 1) (.val (.int 2147483647)))) (.val (.int 12345))) (.val (.int 2147483647)))) .nil)) (.cons (.ret (.list (.cons (.comp1 (.bin .Mod (.call (.bi "abs") (.cons (.loc 4) .nil)) (.bin .Pow (.val (.int 10)) (.val (.int 400)))) 4 (.loc 2)) (.cons (.loc 3) (.cons (.val (.int 0)) .nil))))) .nil))))
-- _law_draw: (pot, 0), (limit, 1), (place, 2), (spot, 3), (here, 4)
noncomputable def b381 : RSs := (.cons (.asg (.loc 2) (.sub (.loc 0) (.val (.int 2)))) (.cons (.asg (.sub (.loc 0) (.val (.int 2))) (.bin .Add (.loc 2) (.val (.int 1)))) (.cons (.ite (.tr (.sub (.loc 0) (.val (.int 0)))) (.cons (.asg (.loc 3) (.bin .Mod (.loc 2) (.call (.bi "len") (.cons (.sub (.loc 0) (.val (.int 0))) .nil)))) (.cons (.asg (.loc 4) (.sub (.sub (.loc 0) (.val (.int 0))) (.loc 3))) (.cons (.ite (.cmp1 .Gt (.loc 4) (.val (.int 0))) (.cons (.asg (.sub (.sub (.loc 0) (.val (.int 0))) (.loc 3)) (.bin .FloorDiv (.loc 4) (.loc 1))) (.cons (.ret (.bin .Mod (.loc 4) (.loc 1))) .nil)) .nil) .nil))) .nil) (.cons (.asg (.sub (.loc 0) (.val (.int 1))) (.bin .Mod (.bin .Add (.bin .Add (.bin .Mult (.sub (.loc 0) (.val (.int 1))) (.val (.int 16807))) (.bin .Mult (.loc 2) (.loc 2))) (.val (.int 7))) (.val (.int 2147483647)))) (.cons (.ret (.bin .Mod (.bin .FloorDiv (.sub (.loc 0) (.val (.int 1))) (.val (.int 5))) (.loc 1))) .nil)))))
-- _law_signs: 
noncomputable def b388 : RSs := (.cons (.ret (.bin .Add (.val (.str (cs "ab %25'*e"))) (.val (.str [233, 8226])))) .nil)
-- _law_charsets: 
noncomputable def b395 : RSs := (.cons (.ret (.list (.cons (.tup (.cons (.val (.str (cs "utf-8"))) (.cons (.val (.str (cs "utf-8"))) .nil))) (.cons (.tup (.cons (.val (.str (cs "UTF8"))) (.cons (.val (.str (cs "utf-8"))) .nil))) (.cons (.tup (.cons (.val (.str (cs "ISO-8859-1"))) (.cons (.val (.str (cs "iso-8859-1"))) .nil))) (.cons (.tup (.cons (.val (.str (cs "us-ascii"))) (.cons (.val (.str (cs "us-ascii"))) .nil))) (.cons (.tup (.cons (.val (.str (cs "x-none"))) (.cons (.val (.str (cs "utf-8"))) .nil))) (.cons (.tup (.cons (.val (.str (cs ""))) (.cons (.val (.str (cs "utf-8"))) .nil))) .nil)))))))) .nil)
-- _law_sign_octets: (sign, 0), (charset, 1), (code, 2)
noncomputable def b402 : RSs := (.cons (.asg (.loc 2) (.call (.bi "ord") (.cons (.loc 0) .nil))) (.cons (.ite (.cmp1 .Lt (.loc 2) (.val (.int 128))) (.cons (.ret (.call (.ty "bytes") (.cons (.list (.cons (.loc 2) .nil)) .nil))) .nil) .nil) (.cons (.ite (.all .And (.cons (.cmp1 .Eq (.loc 1) (.val (.str (cs "iso-8859-1")))) (.cons (.cmp1 .Lt (.loc 2) (.val (.int 256))) .nil))) (.cons (.ret (.call (.ty "bytes") (.cons (.list (.cons (.loc 2) .nil)) .nil))) .nil) .nil) (.cons (.ite (.cmp1 .NotEq (.loc 1) (.val (.str (cs "utf-8")))) (.cons (.ret (.val (.bytes [63]))) .nil) .nil) (.cons (.ite (.cmp1 .Lt (.loc 2) (.val (.int 2048))) (.cons (.ret (.call (.ty "bytes") (.cons (.list (.cons (.bin .Add (.val (.int 192)) (.bin .FloorDiv (.loc 2) (.val (.int 64)))) (.cons (.bin .Add (.val (.int 128)) (.bin .Mod (.loc 2) (.val (.int 64)))) .nil))) .nil))) .nil) .nil) (.cons (.ret (.call (.ty "bytes") (.cons (.list (.cons (.bin .Add (.val (.int 224)) (.bin .FloorDiv (.loc 2) (.val (.int 4096)))) (.cons (.bin .Add (.val (.int 128)) (.bin .Mod (.bin .FloorDiv (.loc 2) (.val (.int 64))) (.val (.int 64)))) (.cons (.bin .Add (.val (.int 128)) (.bin .Mod (.loc 2) (.val (.int 64)))) .nil)))) .nil))) .nil))))))
-- _law_percent: (pot, 0), (octets, 1), (found, 2), (code, 3), (figures, 4)
noncomputable def b409 : RSs := (.cons (.asg (.loc 2) (.val (.bytes []))) (.cons (.fr (.loc 3) (.loc 1) (.cons (.ite (.all .And (.cons (.cmp2 .LtE .LtE (.val (.int 97)) (.loc 3) (.val (.int 122))) (.cons (.cmp1 .Gt (.call (.ref 381) (.cons (.loc 0) (.cons (.val (.int 3)) .nil))) (.val (.int 0))) .nil))) (.cons (.asg (.loc 2) (.bin .Add (.loc 2) (.call (.ty "bytes") (.cons (.list (.cons (.loc 3) .nil)) .nil)))) .nil) (.cons (.asg (.loc 4) (.ife (.cmp1 .Eq (.call (.ref 381) (.cons (.loc 0) (.cons (.val (.int 2)) .nil))) (.val (.int 1))) (.val (.bytes [48, 49, 50, 51, 52, 53, 54, 55, 56, 57, 97, 98, 99, 100, 101, 102])) (.val (.bytes [48, 49, 50, 51, 52, 53, 54, 55, 56, 57, 65, 66, 67, 68, 69, 70])))) (.cons (.asg (.loc 2) (.bin .Add (.loc 2) (.call (.ty "bytes") (.cons (.list (.cons (.val (.int 37)) (.cons (.sub (.loc 4) (.bin .FloorDiv (.loc 3) (.val (.int 16)))) (.cons (.sub (.loc 4) (.bin .Mod (.loc 3) (.val (.int 16)))) .nil)))) .nil)))) .nil))) .nil)) (.cons (.ret (.loc 2)) .nil)))
-- _law_quoted: (octets, 0)
noncomputable def b414 : RSs := (.cons (.ret (.bin .Add (.bin .Add (.val (.bytes [34])) (.meth (.val (.bytes [])) (sn "join") (.cons (.comp1 (.ife (.cmp1 .In (.loc 1) (.val (.bytes [34, 92]))) (.bin .Add (.val (.bytes [92])) (.call (.ty "bytes") (.cons (.list (.cons (.loc 1) .nil)) .nil))) (.call (.ty "bytes") (.cons (.list (.cons (.loc 1) .nil)) .nil))) 1 (.loc 0)) .nil))) (.val (.bytes [34])))) .nil)
-- _law_text: (octets, 0), (charset, 1), (found, 2), (at, 3), (length, 4), (code, 5)
noncomputable def b421 : RSs := (.cons (.asg (.loc 2) (.val (.str (cs "")))) (.cons (.asg (.loc 3) (.val (.int 0))) (.cons (.wh (.cmp1 .Lt (.loc 3) (.call (.bi "len") (.cons (.loc 0) .nil))) (.cons (.asg (.loc 4) (.ife (.all .Or (.cons (.cmp1 .Lt (.sub (.loc 0) (.loc 3)) (.val (.int 128))) (.cons (.cmp1 .NotEq (.loc 1) (.val (.str (cs "utf-8")))) .nil))) (.val (.int 1)) (.ife (.cmp1 .Lt (.sub (.loc 0) (.loc 3)) (.val (.int 224))) (.val (.int 2)) (.val (.int 3))))) (.cons (.asg (.loc 5) (.sub (.loc 0) (.loc 3))) (.cons (.ite (.cmp1 .Eq (.loc 4) (.val (.int 2))) (.cons (.asg (.loc 5) (.bin .Add (.bin .Mult (.bin .Mod (.sub (.loc 0) (.loc 3)) (.val (.int 32))) (.val (.int 64))) (.bin .Mod (.sub (.loc 0) (.bin .Add (.loc 3) (.val (.int 1)))) (.val (.int 64))))) .nil) .nil) (.cons (.ite (.cmp1 .Eq (.loc 4) (.val (.int 3))) (.cons (.asg (.loc 5) (.bin .Add (.bin .Add (.bin .Mult (.bin .Mod (.sub (.loc 0) (.loc 3)) (.val (.int 16))) (.val (.int 4096))) (.bin .Mult (.bin .Mod (.sub (.loc 0) (.bin .Add (.loc 3) (.val (.int 1)))) (.val (.int 64))) (.val (.int 64)))) (.bin .Mod (.sub (.loc 0) (.bin .Add (.loc 3) (.val (.int 2)))) (.val (.int 64))))) .nil) .nil) (.cons (.asg (.loc 2) (.bin .Add (.loc 2) (.call (.bi "chr") (.cons (.loc 5) .nil)))) (.cons (.asg (.loc 3) (.bin .Add (.loc 3) (.loc 4))) .nil))))))) (.cons (.ret (.loc 2)) .nil))))
-- law: (script, 0), (pot, 1), (told_charset, 2), (charset, 3), (text, 4), (is_lone, 5), (pieces, 6), (sign, 7), (is_beyond, 8), (missing, 9), (rows, 10), (due, 11), (at, 12), (is_encoded, 13), (name, 14), (worth, 15), (is_told, 16), (params, 17), (odd, 18)
noncomputable def b426 : RSs := (.cons (.asg (.loc 1) (.call (.ref 374) (.cons (.loc 0) .nil))) (.cons (.asg (.locs [2, 3]) (.sub (.call (.ref 395) .nil) (.call (.ref 381) (.cons (.loc 1) (.cons (.val (.int 6)) .nil))))) (.cons (.asg (.loc 4) (.meth (.val (.str (cs ""))) (sn "join") (.cons (.comp1 (.sub (.call (.ref 388) .nil) (.call (.ref 381) (.cons (.loc 1) (.cons (.call (.bi "len") (.cons (.call (.ref 388) .nil) .nil)) .nil)))) 19 (.call (.ty "range") (.cons (.call (.ref 381) (.cons (.loc 1) (.cons (.val (.int 9)) .nil))) .nil))) .nil))) (.cons (.asg (.loc 5) (.cmp1 .Eq (.call (.ref 381) (.cons (.loc 1) (.cons (.val (.int 5)) .nil))) (.val (.int 0)))) (.cons (.asg (.loc 6) (.list (.cons (.val (.bytes [])) .nil))) (.cons (.fr (.loc 7) (.loc 4) (.cons (.ite (.all .And (.cons (.nt (.tr (.loc 5))) (.cons (.cmp1 .Eq (.call (.ref 381) (.cons (.loc 1) (.cons (.val (.int 3)) .nil))) (.val (.int 0))) .nil))) (.cons (.expr (.meth (.loc 6) (sn "append") (.cons (.val (.bytes [])) .nil))) .nil) .nil) (.cons (.asg (.sub (.loc 6) (.neg (.val (.int 1)))) (.bin .Add (.sub (.loc 6) (.neg (.val (.int 1)))) (.call (.ref 402) (.cons (.loc 7) (.cons (.loc 3) .nil))))) .nil))) (.cons (.asg (.loc 8) (.cmp1 .NotEq (.comp2 (.loc 20) 19 (.loc 6) 20 (.loc 19) (.cmp1 .Gt (.loc 20) (.val (.int 127)))) (.list .nil))) (.cons (.asg (.loc 9) (.call (.ref 381) (.cons (.loc 1) (.cons (.bin .Add (.bin .Mult (.val (.int 2)) (.call (.bi "len") (.cons (.loc 6) .nil))) (.val (.int 2))) .nil)))) (.cons (.asg (.loc 10) (.list .nil)) (.cons (.asg (.loc 11) (.val (.bytes []))) (.cons (.fr (.loc 12) (.call (.ty "range") (.cons (.call (.bi "len") (.cons (.loc 6) .nil)) .nil)) (.cons (.asg (.loc 13) (.bool .Or (.cons (.loc 5) (.cons (.loc 8) (.cons (.cmp1 .Eq (.call (.ref 381) (.cons (.loc 1) (.cons (.val (.int 2)) .nil))) (.val (.int 1))) .nil))))) (.cons (.asg (.loc 14) (.bin .Add (.bin .Add (.val (.bytes [110, 97, 109, 101, 42])) (.ife (.tr (.loc 5)) (.val (.bytes [])) (.call (.ty "bytes") (.cons (.list (.cons (.bin .Add (.val (.int 48)) (.loc 12)) .nil)) .nil)))) (.ife (.all .And (.cons (.tr (.loc 13)) (.cons (.nt (.tr (.loc 5))) .nil))) (.val (.bytes [42])) (.val (.bytes []))))) (.cons (.asg (.loc 15) (.ife (.tr (.loc 13)) (.call (.ref 409) (.cons (.loc 1) (.cons (.sub (.loc 6) (.loc 12)) .nil))) (.call (.ref 414) (.cons (.sub (.loc 6) (.loc 12)) .nil)))) (.cons (.ite (.all .And (.cons (.cmp1 .Eq (.loc 12) (.val (.int 0))) (.cons (.tr (.loc 13)) .nil))) (.cons (.asg (.loc 15) (.bin .Add (.bin .Add (.call (.ty "bytes") (.cons (.comp1 (.call (.bi "ord") (.cons (.loc 19) .nil)) 19 (.loc 2)) .nil)) (.sub (.list (.cons (.val (.bytes [39, 39])) (.cons (.val (.bytes [39, 101, 110, 39])) .nil))) (.call (.ref 381) (.cons (.loc 1) (.cons (.val (.int 2)) .nil))))) (.loc 15))) .nil) .nil) (.cons (.ite (.all .And (.cons (.cmp1 .Eq (.loc 12) (.val (.int 0))) (.cons (.nt (.tr (.loc 13))) .nil))) (.cons (.asg (.loc 3) (.val (.str (cs "utf-8")))) .nil) .nil) (.cons (.ite (.cmp1 .Eq (.loc 12) (.loc 9)) (.cons .cont .nil) .nil) (.cons (.expr (.meth (.loc 10) (sn "append") (.cons (.bin .Add (.bin .Add (.loc 14) (.val (.bytes [61]))) (.ife (.tr (.loc 15)) (.loc 15) (.val (.bytes [34, 34])))) .nil))) (.cons (.ite (.cmp1 .Lt (.loc 12) (.loc 9)) (.cons (.asg (.loc 11) (.bin .Add (.loc 11) (.sub (.loc 6) (.loc 12)))) .nil) .nil) .nil))))))))) (.cons (.ite (.cmp1 .Eq (.call (.ref 381) (.cons (.loc 1) (.cons (.val (.int 2)) .nil))) (.val (.int 1))) (.cons (.asg (.loc 10) (.slice (.loc 10) (.val .none) (.val .none) (.neg (.val (.int 1))))) .nil) .nil) (.cons (.asg (.loc 16) (.cmp1 .Gt (.loc 9) (.val (.int 0)))) (.cons (.ite (.all .And (.cons (.cmp1 .Eq (.call (.ref 381) (.cons (.loc 1) (.cons (.val (.int 3)) .nil))) (.val (.int 0))) (.cons (.tr (.loc 16)) (.cons (.nt (.tr (.loc 5))) .nil)))) (.cons (.expr (.meth (.loc 10) (sn "append") (.cons (.val (.bytes [110, 97, 109, 101, 42, 48, 42, 61, 117, 116, 102, 45, 56, 39, 39, 116, 119, 105, 99, 101])) .nil))) .nil) .nil) (.cons (.asg (.loc 17) .dict0) (.cons (.ite (.cmp1 .Eq (.call (.ref 381) (.cons (.loc 1) (.cons (.val (.int 2)) .nil))) (.val (.int 1))) (.cons (.expr (.meth (.loc 10) (sn "insert") (.cons (.call (.ref 381) (.cons (.loc 1) (.cons (.bin .Add (.call (.bi "len") (.cons (.loc 10) .nil)) (.val (.int 1))) .nil))) (.cons (.val (.bytes [78, 97, 109, 101, 61, 112, 108, 97, 105, 110])) .nil)))) (.cons (.asg (.sub (.loc 17) (.val (.str (cs "name")))) (.val (.str (cs "plain")))) .nil)) .nil) (.cons (.asg (.loc 18) (.sub (.list (.cons (.val (.bytes [110, 97, 109, 101, 42, 48, 48, 61, 120])) (.cons (.val (.bytes [110, 97, 109, 101, 42, 49, 48, 48, 48, 61, 120])) (.cons (.val (.bytes [110, 97, 109, 101, 42, 49, 97, 61, 120])) (.cons (.val (.bytes [42, 48, 61, 120])) (.cons (.val (.bytes [110, 97, 109, 101, 42, 42, 61, 120])) .nil)))))) (.call (.ref 381) (.cons (.loc 1) (.cons (.val (.int 5)) .nil))))) (.cons (.expr (.meth (.loc 10) (sn "append") (.cons (.loc 18) .nil))) (.cons (.asg (.sub (.loc 17) (.meth (.val (.str (cs ""))) (sn "join") (.cons (.comp1 (.call (.bi "chr") (.cons (.loc 19) .nil)) 19 (.slice (.loc 18) (.val .none) (.neg (.val (.int 2))) (.val .none))) .nil))) (.val (.str (cs "x")))) (.cons (.ite (.tr (.loc 16)) (.cons (.asg (.sub (.loc 17) (.val (.str (cs "name")))) (.call (.ref 421) (.cons (.loc 11) (.cons (.loc 3) .nil)))) .nil) .nil) (.cons (.ret (.cmp1 .Eq (.call (.ref 369) (.cons (.bin .Add (.val (.bytes [119, 59, 32])) (.meth (.val (.bytes [59, 32])) (sn "join") (.cons (.loc 10) .nil))) .nil)) (.tup (.cons (.val (.str (cs "w"))) (.cons (.loc 17) .nil))))) .nil)))))))))))))))))))))
theorem f88 {P : Params} : FnS P 88 [sn "self", sn "data", sn "at", sn "end"] b88 := ⟨by kernel_rfl, by decide +kernel, by kernel_rfl, by kernel_rfl, by kernel_rfl⟩
theorem f95 {P : Params} : FnB P 95 [sn "self"] b95 := ⟨⟨by kernel_rfl, by decide +kernel, by kernel_rfl, by kernel_rfl, by kernel_rfl⟩, len1 (fun a => Eq.refl _)⟩
theorem f103 {P : Params} : FnS P 103 [sn "self", sn "ahead"] b103 := ⟨by kernel_rfl, by decide +kernel, by kernel_rfl, by kernel_rfl, by kernel_rfl⟩
theorem f110 {P : Params} : FnB P 110 [sn "self"] b110 := ⟨⟨by kernel_rfl, by decide +kernel, by kernel_rfl, by kernel_rfl, by kernel_rfl⟩, len1 (fun a => Eq.refl _)⟩
theorem f166 {P : Params} : FnB P 166 [sn "code"] b166 := ⟨⟨by kernel_rfl, by decide +kernel, by kernel_rfl, by kernel_rfl, by kernel_rfl⟩, len1 (fun a => Eq.refl _)⟩
theorem f171 {P : Params} : FnB P 171 [sn "octets"] b171 := ⟨⟨by kernel_rfl, by decide +kernel, by kernel_rfl, by kernel_rfl, by kernel_rfl⟩, len1 (fun a => Eq.refl _)⟩
theorem f176 {P : Params} : FnB P 176 [sn "text"] b176 := ⟨⟨by kernel_rfl, by decide +kernel, by kernel_rfl, by kernel_rfl, by kernel_rfl⟩, len1 (fun a => Eq.refl _)⟩
theorem f184 {P : Params} : FnB P 184 [] b184 := ⟨⟨by kernel_rfl, by decide +kernel, by kernel_rfl, by kernel_rfl, by kernel_rfl⟩, len0 (Eq.refl _)⟩
theorem f191 {P : Params} : FnB P 191 [sn "text"] b191 := ⟨⟨by kernel_rfl, by decide +kernel, by kernel_rfl, by kernel_rfl, by kernel_rfl⟩, len1 (fun a => Eq.refl _)⟩
theorem f198 {P : Params} : FnB P 198 [sn "charset"] b198 := ⟨⟨by kernel_rfl, by decide +kernel, by kernel_rfl, by kernel_rfl, by kernel_rfl⟩, len1 (fun a => Eq.refl _)⟩
theorem f205 {P : Params} : FnB P 205 [sn "lead"] b205 := ⟨⟨by kernel_rfl, by decide +kernel, by kernel_rfl, by kernel_rfl, by kernel_rfl⟩, len1 (fun a => Eq.refl _)⟩
theorem f212 {P : Params} : FnB P 212 [sn "octets", sn "at"] b212 := ⟨⟨by kernel_rfl, by decide +kernel, by kernel_rfl, by kernel_rfl, by kernel_rfl⟩, len2 (fun a b => Eq.refl _)⟩
theorem f219 {P : Params} : FnB P 219 [sn "charset", sn "octets", sn "at"] b219 := ⟨⟨by kernel_rfl, by decide +kernel, by kernel_rfl, by kernel_rfl, by kernel_rfl⟩, len3 (fun a b c => Eq.refl _)⟩
theorem f226 {P : Params} : FnB P 226 [sn "charset", sn "octets"] b226 := ⟨⟨by kernel_rfl, by decide +kernel, by kernel_rfl, by kernel_rfl, by kernel_rfl⟩, len2 (fun a b => Eq.refl _)⟩
theorem f233 {P : Params} : FnB P 233 [sn "charset", sn "octets"] b233 := ⟨⟨by kernel_rfl, by decide +kernel, by kernel_rfl, by kernel_rfl, by kernel_rfl⟩, len2 (fun a b => Eq.refl _)⟩
theorem f240 {P : Params} : FnB P 240 [sn "octets"] b240 := ⟨⟨by kernel_rfl, by decide +kernel, by kernel_rfl, by kernel_rfl, by kernel_rfl⟩, len1 (fun a => Eq.refl _)⟩
theorem f248 {P : Params} : FnB P 248 [sn "data", sn "at"] b248 := ⟨⟨by kernel_rfl, by decide +kernel, by kernel_rfl, by kernel_rfl, by kernel_rfl⟩, len2 (fun a b => Eq.refl _)⟩
theorem f255 {P : Params} : FnB P 255 [sn "data", sn "at", sn "begun"] b255 := ⟨⟨by kernel_rfl, by decide +kernel, by kernel_rfl, by kernel_rfl, by kernel_rfl⟩, len3 (fun a b c => Eq.refl _)⟩
theorem f262 {P : Params} : FnB P 262 [sn "data", sn "begun", sn "closing", sn "barred"] b262 := ⟨⟨by kernel_rfl, by decide +kernel, by kernel_rfl, by kernel_rfl, by kernel_rfl⟩, len4 (fun a b c d => Eq.refl _)⟩
theorem f277 {P : Params} : FnB P 277 [sn "code"] b277 := ⟨⟨by kernel_rfl, by decide +kernel, by kernel_rfl, by kernel_rfl, by kernel_rfl⟩, len1 (fun a => Eq.refl _)⟩
theorem f284 {P : Params} : FnB P 284 [sn "cursor"] b284 := ⟨⟨by kernel_rfl, by decide +kernel, by kernel_rfl, by kernel_rfl, by kernel_rfl⟩, len1 (fun a => Eq.refl _)⟩
theorem f291 {P : Params} : FnB P 291 [sn "cursor"] b291 := ⟨⟨by kernel_rfl, by decide +kernel, by kernel_rfl, by kernel_rfl, by kernel_rfl⟩, len1 (fun a => Eq.refl _)⟩
theorem f298 {P : Params} : FnB P 298 [sn "code"] b298 := ⟨⟨by kernel_rfl, by decide +kernel, by kernel_rfl, by kernel_rfl, by kernel_rfl⟩, len1 (fun a => Eq.refl _)⟩
theorem f305 {P : Params} : FnB P 305 [sn "cursor"] b305 := ⟨⟨by kernel_rfl, by decide +kernel, by kernel_rfl, by kernel_rfl, by kernel_rfl⟩, len1 (fun a => Eq.refl _)⟩
theorem f310 {P : Params} : FnB P 310 [sn "octets"] b310 := ⟨⟨by kernel_rfl, by decide +kernel, by kernel_rfl, by kernel_rfl, by kernel_rfl⟩, len1 (fun a => Eq.refl _)⟩
theorem f317 {P : Params} : FnB P 317 [sn "cursor"] b317 := ⟨⟨by kernel_rfl, by decide +kernel, by kernel_rfl, by kernel_rfl, by kernel_rfl⟩, len1 (fun a => Eq.refl _)⟩
theorem f324 {P : Params} : FnB P 324 [sn "figures"] b324 := ⟨⟨by kernel_rfl, by decide +kernel, by kernel_rfl, by kernel_rfl, by kernel_rfl⟩, len1 (fun a => Eq.refl _)⟩
theorem f331 {P : Params} : FnB P 331 [sn "name"] b331 := ⟨⟨by kernel_rfl, by decide +kernel, by kernel_rfl, by kernel_rfl, by kernel_rfl⟩, len1 (fun a => Eq.refl _)⟩
theorem f336 {P : Params} : FnB P 336 [sn "octets"] b336 := ⟨⟨by kernel_rfl, by decide +kernel, by kernel_rfl, by kernel_rfl, by kernel_rfl⟩, len1 (fun a => Eq.refl _)⟩
theorem f343 {P : Params} : FnB P 343 [sn "octets"] b343 := ⟨⟨by kernel_rfl, by decide +kernel, by kernel_rfl, by kernel_rfl, by kernel_rfl⟩, len1 (fun a => Eq.refl _)⟩
theorem f348 {P : Params} : FnB P 348 [sn "octets"] b348 := ⟨⟨by kernel_rfl, by decide +kernel, by kernel_rfl, by kernel_rfl, by kernel_rfl⟩, len1 (fun a => Eq.refl _)⟩
theorem f355 {P : Params} : FnB P 355 [sn "parts"] b355 := ⟨⟨by kernel_rfl, by decide +kernel, by kernel_rfl, by kernel_rfl, by kernel_rfl⟩, len1 (fun a => Eq.refl _)⟩
theorem f362 {P : Params} : FnB P 362 [sn "pairs"] b362 := ⟨⟨by kernel_rfl, by decide +kernel, by kernel_rfl, by kernel_rfl, by kernel_rfl⟩, len1 (fun a => Eq.refl _)⟩
theorem f369 {P : Params} : FnB P 369 [sn "octets"] b369 := ⟨⟨by kernel_rfl, by decide +kernel, by kernel_rfl, by kernel_rfl, by kernel_rfl⟩, len1 (fun a => Eq.refl _)⟩
theorem f374 {P : Params} : FnB P 374 [sn "script"] b374 := ⟨⟨by kernel_rfl, by decide +kernel, by kernel_rfl, by kernel_rfl, by kernel_rfl⟩, len1 (fun a => Eq.refl _)⟩
theorem f381 {P : Params} : FnB P 381 [sn "pot", sn "limit"] b381 := ⟨⟨by kernel_rfl, by decide +kernel, by kernel_rfl, by kernel_rfl, by kernel_rfl⟩, len2 (fun a b => Eq.refl _)⟩
theorem f388 {P : Params} : FnB P 388 [] b388 := ⟨⟨by kernel_rfl, by decide +kernel, by kernel_rfl, by kernel_rfl, by kernel_rfl⟩, len0 (Eq.refl _)⟩
theorem f395 {P : Params} : FnB P 395 [] b395 := ⟨⟨by kernel_rfl, by decide +kernel, by kernel_rfl, by kernel_rfl, by kernel_rfl⟩, len0 (Eq.refl _)⟩
theorem f402 {P : Params} : FnB P 402 [sn "sign", sn "charset"] b402 := ⟨⟨by kernel_rfl, by decide +kernel, by kernel_rfl, by kernel_rfl, by kernel_rfl⟩, len2 (fun a b => Eq.refl _)⟩
theorem f409 {P : Params} : FnB P 409 [sn "pot", sn "octets"] b409 := ⟨⟨by kernel_rfl, by decide +kernel, by kernel_rfl, by kernel_rfl, by kernel_rfl⟩, len2 (fun a b => Eq.refl _)⟩
theorem f414 {P : Params} : FnB P 414 [sn "octets"] b414 := ⟨⟨by kernel_rfl, by decide +kernel, by kernel_rfl, by kernel_rfl, by kernel_rfl⟩, len1 (fun a => Eq.refl _)⟩
theorem f421 {P : Params} : FnB P 421 [sn "octets", sn "charset"] b421 := ⟨⟨by kernel_rfl, by decide +kernel, by kernel_rfl, by kernel_rfl, by kernel_rfl⟩, len2 (fun a b => Eq.refl _)⟩

-- R16

section
variable {X Y : Prop} {c : Bool} {p : Prop} [Decidable p]
theorem br_t (h : X) : Br true X Y := ⟨fun _ => h, fun e => Bool.noConfusion e⟩
theorem br_f (h : Y) : Br false X Y := ⟨fun e => Bool.noConfusion e, fun _ => h⟩
theorem br_dec (h1 : p → X) (h2 : ¬ p → Y) : Br (decide p) X Y := ⟨fun e => h1 (of_decide_eq_true e), fun e => h2 (of_decide_eq_false e)⟩
theorem br_n (h : Br c Y X) : Br (!c) X Y := ⟨fun e => h.no (not_eq e), fun e => h.yes (by cases c with | true => rfl | false => cases e)⟩
theorem br_nd (h1 : ¬ p → X) (h2 : p → Y) : Br (!decide p) X Y := br_n (br_dec h2 h1)
theorem br_y (e : c = true) (h : X) : Br c X Y := by cases e; exact br_t h
theorem br_x (e : c = false) (h : Y) : Br c X Y := by cases e; exact br_f h
theorem bne_f {α : Type} [BEq α] [LawfulBEq α] {i j : α} (e : (i != j) = false) : i = j := eq_of_beq (by unfold bne at e; cases q : i == j with | true => rfl | false => rw [q] at e; cases e)
theorem br_iz {i : Int} (h1 : i ≠ 0 → X) (h2 : i = 0 → Y) : Br (i != 0) X Y := ⟨fun e => h1 (bne_iff_ne.mp e), fun e => h2 (bne_f e)⟩
theorem br_nz {i : Nat} (h1 : i ≠ 0 → X) (h2 : i = 0 → Y) : Br (i != 0) X Y := ⟨fun e => h1 (bne_iff_ne.mp e), fun e => h2 (bne_f e)⟩
end
theorem AHeap.Le.trans {H H₁ H₂ : AHeap} (a : H.Le H₁) (b : H₁.Le H₂) : H.Le H₂ := fun x o e => b x o (a x o e)
theorem AHeap.Le.set {H : AHeap} {a : Addr} {o : AObj} (e : H a = none) : H.Le (H.set a o) := fun b o' q => by
  rw [AHeap.set_other (fun z => by rw [z, e] at q; cases q)]; exact q
section
variable {L : Nat} {H : AHeap} {k : KV}
theorem loc_go {o : Option PV} {v : PV} (e : o = some v) (h : k v H) : locK o k H := by cases e; exact h
theorem meth_go {G : Ctx} {r : Option PV} {f ov : PV} {a : TXL} (e : r = some f) (h : a H (fMeth2 G L ov f k)) : methX G L r a ov H k := by cases e; exact h
theorem s_new {o : AObj} (h : ∀ a, H a = none → k (.ref a) (H.set a o)) : newW o H k := h
section
variable {x y : Int} {a b : List Nat}
theorem p_is {v : PV} (h : k (.bool v.isNone) H) (G : Ctx := by assumption) : cmpH G.prog G.w G.B .Is v .none H k := by cases v <;> exact h
theorem p_in_tup {ps : List PV} {ns : List Int} (c : intsOf ps = some ns) (h : k (.bool (decide (x ∈ ns))) H) (G : Ctx := by assumption) : cmpH G.prog G.w G.B .In (.int x) (.tup ps) H k :=
  tr_at (fun o => match o with | some ns => k (.bool (decide (x ∈ ns))) H | none => False) c h
theorem p_notin_tup {ps : List PV} {ns : List Int} (c : intsOf ps = some ns) (h : k (.bool (!decide (x ∈ ns))) H) (G : Ctx := by assumption) : cmpH G.prog G.w G.B .NotIn (.int x) (.tup ps) H k :=
  tr_at (fun o => match o with | some ns => k (.bool (!decide (x ∈ ns))) H | none => False) c h
theorem p_notin_tups {ps : List PV} {ns : List (List Nat)} (c : strsOf ps = some ns) (h : k (.bool (!decide (a ∈ ns))) H) (G : Ctx := by assumption) : cmpH G.prog G.w G.B .NotIn (.str a) (.tup ps) H k :=
  tr_at (fun o => match o with | some ns => k (.bool (!decide (a ∈ ns))) H | none => False) c h
theorem p_in_bytes (c : a.length ≤ 1000000 ∧ 0 ≤ x ∧ x < 256) (h : k (.bool (decide (x.toNat ∈ a))) H) (G : Ctx := by assumption) : cmpH G.prog G.w G.B .In (.int x) (.bytes a) H k := ⟨c, h⟩
theorem p_notin_bytes (c : a.length ≤ 1000000 ∧ 0 ≤ x ∧ x < 256) (h : k (.bool (!decide (x.toNat ∈ a))) H) (G : Ctx := by assumption) : cmpH G.prog G.w G.B .NotIn (.int x) (.bytes a) H k := ⟨c, h⟩
theorem p_in_sd {d : Addr} {kvs : List (List Nat × PV)} {ep : Nat} (e : H d = some (.sdict kvs ep)) (h : k (.bool (sget kvs a).isSome) H) (G : Ctx := by assumption) : cmpH G.prog G.w G.B .In (.str a) (.ref d) H k :=
  tr_at (fun o => match o with | some (.sdict kvs _) => k (.bool (sget kvs a).isSome) H | _ => False) e h
theorem p_notin_sd {d : Addr} {kvs : List (List Nat × PV)} {ep : Nat} (e : H d = some (.sdict kvs ep)) (h : k (.bool (!(sget kvs a).isSome)) H) (G : Ctx := by assumption) : cmpH G.prog G.w G.B .NotIn (.str a) (.ref d) H k :=
  tr_at (fun o => match o with | some (.sdict kvs _) => k (.bool (!(sget kvs a).isSome)) H | _ => False) e h
theorem p_in_id {d : Addr} {kvs : List (Int × PV)} (e : H d = some (.idict kvs)) (h : k (.bool (iget kvs x).isSome) H) (G : Ctx := by assumption) : cmpH G.prog G.w G.B .In (.int x) (.ref d) H k :=
  tr_at (fun o => match o with | some (.idict kvs) => k (.bool (iget kvs x).isSome) H | some (.sdict [] _) => k (.bool false) H | _ => False) e h
theorem p_notin_id {d : Addr} {kvs : List (Int × PV)} (e : H d = some (.idict kvs)) (h : k (.bool (!(iget kvs x).isSome)) H) (G : Ctx := by assumption) : cmpH G.prog G.w G.B .NotIn (.int x) (.ref d) H k :=
  tr_at (fun o => match o with | some (.idict kvs) => k (.bool (!(iget kvs x).isSome)) H | some (.sdict [] _) => k (.bool true) H | _ => False) e h
theorem p_in_id0 {d : Addr} {ep : Nat} (e : H d = some (.sdict [] ep)) (h : k (.bool false) H) (G : Ctx := by assumption) : cmpH G.prog G.w G.B .In (.int x) (.ref d) H k :=
  tr_at (fun o => match o with | some (.idict kvs) => k (.bool (iget kvs x).isSome) H | some (.sdict [] _) => k (.bool false) H | _ => False) e h
theorem p_notin_id0 {d : Addr} {ep : Nat} (e : H d = some (.sdict [] ep)) (h : k (.bool true) H) (G : Ctx := by assumption) : cmpH G.prog G.w G.B .NotIn (.int x) (.ref d) H k :=
  tr_at (fun o => match o with | some (.idict kvs) => k (.bool (!(iget kvs x).isSome)) H | some (.sdict [] _) => k (.bool true) H | _ => False) e h
theorem p_isN (h : k (.bool true) H) (G : Ctx := by assumption) : cmpH G.prog G.w G.B .Is .none .none H k := h
theorem p_isT {ps : List PV} (h : k (.bool false) H) (G : Ctx := by assumption) : cmpH G.prog G.w G.B .Is (.tup ps) .none H k := h
theorem p_seqT (e : a = b) (h : k (.bool true) H) (G : Ctx := by assumption) : cmpH G.prog G.w G.B .Eq (.str a) (.str b) H k := by rw [← decide_eq_true e] at h; exact h
theorem p_seqF (e : ¬ a = b) (h : k (.bool false) H) (G : Ctx := by assumption) : cmpH G.prog G.w G.B .Eq (.str a) (.str b) H k := by rw [← decide_eq_false e] at h; exact h
end
/-! calls of builtins -/
section
variable {G : Ctx}
variable {x y : List Nat} {i j : Int} {a : Addr} {ps : List PV} {v : PV}
theorem x_lenb (c : x.length ≤ 16777216) (h : k (.int x.length) H) : CallX G L (.bi "len") [.bytes x] H k := ⟨.lenb c h⟩
theorem x_lens (c : x.length ≤ 16777216) (h : k (.int x.length) H) : CallX G L (.bi "len") [.str x] H k := ⟨.lens c h⟩
theorem x_lenl (e : H a = some (.list ps)) (c : ps.length ≤ 16777216) (h : k (.int ps.length) H) : CallX G L (.bi "len") [.ref a] H k := ⟨.lenl e c h⟩
theorem x_ord {c : Nat} (h : k (.int c) H) : CallX G L (.bi "ord") [.str [c]] H k := ⟨.ord h⟩
theorem x_chr (c : 0 ≤ i ∧ i < 1114112) (h : k (.str [i.toNat]) H) : CallX G L (.bi "chr") [.int i] H k := ⟨.chr c h⟩
theorem x_abs (h : k (.int i.natAbs) H) : CallX G L (.bi "abs") [.int i] H k := ⟨.abs h⟩
theorem x_min (h : k (.int (min i j)) H) : CallX G L (.bi "min") [.int i, .int j] H k := ⟨.min h⟩
theorem x_append (e : H a = some (.list ps)) (c : ps.length ≤ 16777216) (h : k .none (H.set a (.list (ps ++ [v])))) : CallX G L (.bi "list.append") [.ref a, v] H k := ⟨.append e c h⟩
theorem x_insert (e : H a = some (.list ps)) (c : ps.length ≤ 16777216 ∧ 0 ≤ i ∧ i ≤ ps.length) (h : k .none (H.set a (.list (ps.take i.toNat ++ v :: ps.drop i.toNat)))) : CallX G L (.bi "list.insert") [.ref a, .int i, v] H k := ⟨.insert e c h⟩
theorem x_sjoin {qs : List (List Nat)} (e : H a = some (.list ps)) (q : strsOf ps = some qs) (c : (joinL x qs).length ≤ 1000000 ∧ ps.length ≤ 1000000) (h : k (.str (joinL x qs)) H) (cx : Nat.ble x.length 1000 = true := by rfl) : CallX G L (.bi "str.join") [.str x, .ref a] H k := ⟨.sjoin e q ⟨c.1, c.2, Nat.le_of_ble_eq_true cx⟩ h⟩
theorem x_bjoin {qs : List (List Nat)} (e : H a = some (.list ps)) (q : bytesOf ps = some qs) (c : (joinL x qs).length ≤ 1000000 ∧ ps.length ≤ 1000000) (h : k (.bytes (joinL x qs)) H) : CallX G L (.bi "bytes.join") [.bytes x, .ref a] H k := ⟨.bjoin e q c h⟩
theorem x_split {c : Nat} (z : x.length ≤ 1000000 ∧ 0 ≤ i ∧ i < 1000) (h : newW (.list ((splitMax c i.toNat x).map .bytes)) H k) : CallX G L (.bi "bytes.split") [.bytes x, .bytes [c], .int i] H k := ⟨.split z h⟩
theorem x_find {c : Nat} (z : x.length ≤ 1000000) (h : k (.int (if c ∈ x then (x.idxOf c : Int) else -1)) H) : CallX G L (.bi "str.find") [.str x, .str [c]] H k := ⟨.find z h⟩
theorem x_index (z : x.length ≤ 1000000 ∧ 0 ≤ i ∧ i < 256 ∧ i.toNat ∈ x) (h : k (.int (x.idxOf i.toNat)) H) : CallX G L (.bi "bytes.index") [.bytes x, .int i] H k := ⟨.index z h⟩
theorem x_gets {kvs : List (List Nat × PV)} {ep : Nat} (e : H a = some (.sdict kvs ep)) (h : k ((sget kvs x).getD v) H) : CallX G L (.bi "dict.get") [.ref a, .str x, v] H k := ⟨.gets e h⟩
theorem x_geti {kvs : List (Int × PV)} (e : H a = some (.idict kvs)) (h : k ((iget kvs i).getD v) H) : CallX G L (.bi "dict.get") [.ref a, .int i, v] H k := ⟨.geti e h⟩
theorem x_bytes {ns : List Int} (e : H a = some (.list ps)) (q : intsOf ps = some ns) (c : ps.length ≤ 1000000 ∧ ∀ n ∈ ns, 0 ≤ n ∧ n < 256) (h : k (.bytes (ns.map Int.toNat)) H) : CallX G L (.ty "bytes") [.ref a] H k := ⟨.bytes e q c h⟩
theorem x_int (h : k (.int i) H) : CallX G L (.ty "int") [.int i] H k := ⟨.int h⟩
theorem x_range1 (h : k (.rng 0 i) H) : CallX G L (.ty "range") [.int i] H k := ⟨.range1 h⟩
theorem x_range2 (h : k (.rng i j) H) : CallX G L (.ty "range") [.int i, .int j] H k := ⟨.range2 h⟩
end
/-! what is walked over -/
section
variable {k : List PV → Option (Addr × AObj) → Prop}
theorem i_tup {ps : List PV} (h : k ps none) : Its (.tup ps) H k := ⟨h⟩
theorem i_flist {ps : List PV} (h : k ps none) : Its (.flist ps) H k := ⟨h⟩
theorem i_bytes {l : List Nat} (c : l.length ≤ 16777216) (h : k (l.map fun (c : Nat) => .int c) none) : Its (.bytes l) H k := ⟨And.intro c h⟩
theorem i_str {l : List Nat} (c : l.length ≤ 16777216 ∧ ∀ c ∈ l, c < 1114112) (h : k (l.map fun c => .str [c]) none) : Its (.str l) H k := ⟨And.intro c h⟩
theorem i_list {a : Addr} {ps : List PV} (e : H a = some (.list ps)) (h : k ps (some (a, .list ps))) : Its (.ref a) H k :=
  ⟨tr_at (fun o => match o with
    | some (.list l) => k l (some (a, .list l))
    | some (.sdict kvs n) => kvs.length ≤ 1000000 ∧ k (kvs.map fun p => .str p.1) (some (a, .sdict kvs n))
    | _ => False) e h⟩
theorem i_rng {a b : Int} {xs : List PV} (e : ((List.range (b - a).toNat).map fun (i : Nat) => PV.int (a + i)) = xs) (c : 0 ≤ a ∧ a < 1000000 ∧ -1000000 < b ∧ b < 1000000) (h : k xs none) : Its (.rng a b) H k := by subst e; exact ⟨And.intro c h⟩
theorem i_sd {a : Addr} {kvs : List (List Nat × PV)} {ep : Nat} (e : H a = some (.sdict kvs ep)) (c : kvs.length ≤ 1000000) (h : k (kvs.map fun p => .str p.1) (some (a, .sdict kvs ep))) : Its (.ref a) H k :=
  ⟨tr_at (fun o => match o with
    | some (.list l) => k l (some (a, .list l))
    | some (.sdict kvs n) => kvs.length ≤ 1000000 ∧ k (kvs.map fun p => .str p.1) (some (a, .sdict kvs n))
    | _ => False) e ⟨c, h⟩⟩
end
/-! loops -/
/-- the invariant of a while loop with a measure -/
noncomputable def WI {ι : Type} (P : ι → Slots → AHeap → Prop) (μ : ι → Nat) (n : Nat) (r : Slots) (H : AHeap) : Prop := ∃ x, μ x = n ∧ P x r H
theorem wh_go {ι : Type} {t : Slots → TXT} {a : Slots → AHeap → KF → Prop} {r : Slots} {k : KF} (P : ι → Slots → AHeap → Prop) (μ : ι → Nat) (x : ι) (h0 : P x r H) (step : ∀ x r' H', P x r' H' → t r' H' (fWh a r' (WI P μ) (μ x) k)) : Wh t a r H k :=
  ⟨WI P μ, ⟨μ x, x, rfl, h0⟩, fun n r' H' ⟨x, e, p⟩ => e ▸ step x r' H' p⟩
theorem bk {ι : Type} {P : ι → Slots → AHeap → Prop} {μ : ι → Nat} {n : Nat} {r : Slots} (x : ι) (h : μ x < n) (p : P x r H) : ∃ n', n' < n ∧ WI P μ n' r H := ⟨_, h, x, rfl, p⟩
section
variable {step : PV → Slots → AHeap → KF → Prop} {src : Option (Addr × AObj)} {K : KF} {r : Slots}
noncomputable def forR (J : List PV → Slots → AHeap → Prop) (src : Option (Addr × AObj)) (xs : List PV) (K : KF) : KF := fun fl r' H' => match fl with
  | .next => srcOk src H' ∧ J xs r' H'
  | .cont => srcOk src H' ∧ J xs r' H'
  | .brk => K .next r' H'
  | .ret v => K (.ret v) r' H'
theorem for_gen (J : List PV → Slots → AHeap → Prop) (hend : ∀ r H, J [] r H → K .next r H) (hstep : ∀ x xs r H, J (x :: xs) r H → ∀ k' : KF, (∀ fl r' H', forR J src xs K fl r' H' → k' fl r' H') → step x r H k') : ∀ (xs : List PV) (r : Slots) (H : AHeap), J xs r H → XForF step src K xs r H
  | [], r, H, j => hend _ _ j
  | x :: xs, r, H, j => hstep x xs r H j _ fun fl r' H' q => match fl, q with
    | .next, q => ⟨q.1, for_gen J hend hstep xs _ _ q.2⟩
    | .cont, q => ⟨q.1, for_gen J hend hstep xs _ _ q.2⟩
    | .brk, q => q
    | .ret _, q => q
theorem f_cons {x : PV} {xs : List PV} (h : ∀ k' : KF,
      (∀ r' H', srcOk src H' → XForF step src K xs r' H' → k' .next r' H') → (∀ r' H', srcOk src H' → XForF step src K xs r' H' → k' .cont r' H') → (∀ v r' H', K (.ret v) r' H' → k' (.ret v) r' H') → step x r H k') : XForF step src K (x :: xs) r H :=
  h _ (fun _ _ a b => ⟨a, b⟩) (fun _ _ a b => ⟨a, b⟩) fun _ _ _ h => h
end
section
variable {step : PV → Slots → List PV → AHeap → KC → Prop} {src : Option (Addr × AObj)} {k : KC}
/-- a comprehension's loop by an invariant -/
theorem comp_gen (J : List PV → List PV → Slots → AHeap → Prop) (hs : ∀ x xs r acc H, J (x :: xs) acc r H → ∀ k' : KC, (∀ r' v H', srcOk src H' → J xs (acc ++ [v]) r' H' → k' r' (acc ++ [v]) H') → step x r acc H k')
    (hk : ∀ r acc H, J [] acc r H → k r acc H) : ∀ (xs : List PV) (r : Slots) (acc : List PV) (H : AHeap), J xs acc r H → XForC step src k xs r acc H
  | [], r, acc, H, j => hk _ _ _ j
  | x :: xs, r, acc, H, j => hs x xs r acc H j _ fun r' v H' so j' => ⟨so, comp_gen J hs hk xs _ _ _ j'⟩
/-- one that changes nothing -/
theorem comp_map {elt : Slots → TX} {t : Nat} {xs : List PV} {r : Slots} (f : PV → PV) (so : srcOk src H) (hs : ∀ x ∈ xs, ∀ (r : Slots) (k' : KV), k' (f x) H → elt (r.put t x) H k') (sz : xs.length ≤ 16777216) (hk : ∀ r', k r' (xs.map f) H) :
    XForC (fCo1 elt t) src k xs r [] H := by
  have go : ∀ (ys : List PV) (r : Slots) (acc : List PV), (∀ x ∈ ys, ∀ (r : Slots) (k' : KV), k' (f x) H → elt (r.put t x) H k') → (acc ++ ys.map f).length ≤ 16777216 → (∀ r', k r' (acc ++ ys.map f) H) → XForC (fCo1 elt t) src k ys r acc H := by
    intro ys
    induction ys with
    | nil => intro r acc _ _ h; have := h r; rw [List.map_nil, List.append_nil] at this; exact this
    | cons y ys ih =>
      intro r acc hs sz h
      rw [List.map_cons, List.append_cons] at sz h
      refine hs y (.head _) r _ ⟨?_, so, ih _ _ (fun x hx => hs x (.tail _ hx)) sz h⟩
      rw [List.length_append, List.length_append] at sz
      exact Nat.le_trans (Nat.le_add_right _ _) (Nat.le_trans (Nat.le_add_right _ _) sz)
  exact go xs r [] hs (by rw [List.nil_append, List.length_map]; exact sz) hk
end
end

section
local macro_rules | `(tactic| infer_instance) => `(tactic| first
  | (refine (?_ : Br _ _ _); first | refine br_t ?_ | refine br_f ?_ | refine br_y (decide_eq_true (by with_reducible assumption)) ?_ | refine br_x (decide_eq_false (by with_reducible assumption)) ?_ | refine br_y (decide_eq_true (by assumption)) ?_ | refine br_x (decide_eq_false (by assumption)) ?_ | refine br_dec (fun _ => ?_) (fun _ => ?_) | refine br_n (br_y (decide_eq_true (by assumption)) ?_) | refine br_n (br_x (decide_eq_false (by assumption)) ?_) | refine br_nd (fun _ => ?_) (fun _ => ?_))
  | refine loc_go (by assumption) ?_
  | refine p_data (by assumption) ?_
  | refine p_at (by assumption) ?_
  | refine p_end (by assumption) ?_
  | (refine (?_ : CallX _ _ (.bi _) _ _ _); first | refine x_ord ?_ | refine x_min ?_ | refine x_abs ?_)
  | (refine (?_ : CallX _ _ (.ty _) _ _ _); first | refine x_int ?_ | refine x_range1 ?_ | refine x_range2 ?_)
  | (refine (?_ : methX _ _ _ _ _ _ _); first | refine meth_go (m_peek (by assumption)) ?_ | refine meth_go (m_take (by assumption)) ?_ | refine meth_go (m_is_done (by assumption)) ?_ | refine meth_go m_sjoin ?_ | refine meth_go m_find ?_ | refine meth_go m_bjoin ?_ | refine meth_go m_split ?_ | refine meth_go m_index ?_ | refine meth_go (m_append (by assumption)) ?_ | refine meth_go (m_insert (by assumption)) ?_ | refine meth_go (m_gets (by assumption)) ?_ | refine meth_go (m_geti (by assumption)) ?_))
-- c1

section
variable {G : Ctx} {L : Nat} {H : AHeap} {k : KV}
noncomputable def lowI (i : Int) : Int := if 65 ≤ i ∧ i ≤ 90 then i + 32 else i
theorem c_lower_code {i : Int} (h : k (.int (lowI i)) H) (lv : Nat.ble L 59 = true := by rfl) : CallX G L (.ref 166) [.int i] H k := by
  refine fn_goX f166 ?_ lv
  repeat' (first | infer_instance | fail)
  · rename_i a b; exact .here (by rw [lowI, if_pos ⟨a, b⟩] at h; exact h)
  · rename_i a b; exact .here (by rw [lowI, if_neg (fun q => b q.2)] at h; exact h)
  · rename_i a; exact .here (by rw [lowI, if_neg (fun q => a q.1)] at h; exact h)

noncomputable def barred : List Nat := [40, 41, 60, 62, 64, 44, 59, 58, 92, 34, 47, 91, 93, 63, 61]
noncomputable def tokB (i : Int) : Bool := decide (32 < i ∧ i < 127 ∧ i.toNat ∉ barred)
theorem tokB_f {i : Int} (n : ¬ (32 < i ∧ i < 127)) : tokB i = false := decide_eq_false fun q => n ⟨q.1, q.2.1⟩
theorem c_is_token {i : Int} (h : k (.bool (tokB i)) H) (lv : Nat.ble L 59 = true := by rfl) : CallX G L (.ref 277) [.int i] H k := by
  refine fn_goX f277 ?_ lv
  repeat' (first | infer_instance | fail)
  · rename_i a b
    refine p_notin_bytes (a := barred) ⟨Nat.le_of_ble_eq_true rfl, Int.le_trans (by decide) (Int.le_of_lt a), Int.lt_trans b (by decide)⟩ ?_
    refine .here ?_
    rw [← decide_not, show decide (i.toNat ∉ barred) = tokB i from decide_eq_decide.mpr ⟨fun q => ⟨a, b, q⟩, fun q => q.2.2⟩]; exact h
  · rename_i a b
    rw [tokB_f (fun q => b q.2)] at h; rw [← decide_eq_false b] at h; exact .here h
  · rename_i a
    rw [tokB_f (fun q => a q.1)] at h; rw [← decide_eq_false a] at h; exact .here h

noncomputable def worthB (i : Int) : Bool := decide (127 < i) || tokB i
theorem c_is_worth {i : Int} (h : k (.bool (worthB i)) H) (lv : Nat.ble L 58 = true := by rfl) : CallX G L (.ref 298) [.int i] H k := by
  refine fn_goX f298 ?_ lv
  unfold worthB at h
  repeat' (first | infer_instance | fail)
  · rename_i a
    rw [decide_eq_true a, Bool.true_or, ← decide_eq_true a] at h
    exact .here h
  · rename_i a
    refine c_is_token (.here ?_)
    rw [decide_eq_false a, Bool.false_or] at h
    exact h

/-! the cursor -/
noncomputable def curH (H : AHeap) (dx : Addr) (d : List Nat) (j : Int) : AHeap := H.set dx (.attrs (curKv d j d.length))
theorem CurAt.ne {c dx : Addr} {d : List Nat} {i : Int} (C : CurAt H c dx d i) : c ≠ dx := by
  rintro rfl; have := C.1; rw [C.2] at this; cases this
theorem CurAt.cur {c dx : Addr} {d : List Nat} {i j : Int} (C : CurAt H c dx d i) : CurAt (curH H dx d j) c dx d j :=
  ⟨by unfold curH; rw [AHeap.set_other C.ne]; exact C.1, AHeap.set_same _ _ _⟩
theorem curH_cur {dx : Addr} {d : List Nat} {i j : Int} : curH (curH H dx d i) dx d j = curH H dx d j := by
  funext b; unfold curH AHeap.set; split <;> rfl
theorem curH_id {c dx : Addr} {d : List Nat} {i : Int} (C : CurAt H c dx d i) : curH H dx d i = H := by
  funext b; unfold curH AHeap.set; split
  · rename_i e; rw [e]; exact C.2.symm
  · rfl
theorem curH_other {dx b : Addr} {d : List Nat} {i : Int} (n : b ≠ dx) : curH H dx d i b = H b := AHeap.set_other n

noncomputable def pk (d : List Nat) (n : Nat) : Int := match d[n]? with | some c => (c : Int) | none => -1
theorem pk_lt {d : List Nat} {n : Nat} (h : n < d.length) : pk d n = (d[n] : Int) := by unfold pk; rw [List.getElem?_eq_getElem h]
theorem pk_end {d : List Nat} {n : Nat} (h : d.length ≤ n) : pk d n = -1 := by unfold pk; rw [List.getElem?_eq_none h]
theorem getD_lt {d : List Nat} {n : Nat} (h : n < d.length) : d.getD n 0 = d[n] := by rw [List.getD_eq_getElem?_getD, List.getElem?_eq_getElem h]; rfl

theorem c_is_done {c dx : Addr} {d : List Nat} {n : Nat} (C : CurAt H c dx d n) (h : k (.bool (decide (d.length ≤ n))) H) (lv : Nat.ble L 59 = true := by rfl) : CallX G L (.ref 95) [.ref c] H k := by
  refine fn_goX f95 ?_ lv
  repeat' (first | infer_instance | fail)
  refine .here ?_
  rw [show decide ((d.length : Int) ≤ n) = decide (d.length ≤ n) from decide_eq_decide.mpr Int.ofNat_le]; exact h

theorem dv_peek : VL G.B G.B [.int 0] [.int 0 304] := VL_cons.mpr ⟨_, [], rfl, V_int.mpr ⟨_, rfl⟩, VL_nil.mpr rfl⟩
theorem c_peek {c dx : Addr} {d : List Nat} {n : Nat} (z : d.length ≤ 1000000) (C : CurAt H c dx d n) (h : k (.int (pk d n)) H) (lv : Nat.ble L 59 = true := by rfl) : CallX G L (.ref 103) [.ref c] H k := by
  refine fn_x1 (fn_goXC (t := 96) (ds := [.int 0]) (dv := [.int 0 304]) f103 (fun fd hf => by cases hf; rfl) rfl dv_peek
    (fun fd hf => by cases hf; refine len1 ?_; exact fun a => ⟨_, rfl, rfl⟩) ?_ lv)
  have e : (n : Int) + 0 = n := Int.add_zero _
  repeat' (first | infer_instance | fail)
  · rename_i b
    rw [e] at b ⊢
    have hn : n < d.length := Int.ofNat_lt.mp b
    refine p_bitem ⟨Nat.le_trans z (Nat.le_of_ble_eq_true rfl), Int.natCast_nonneg _, b⟩ (.here ?_)
    rw [Int.toNat_natCast, getD_lt hn, ← pk_lt hn]
    exact h
  · rename_i b
    rw [e] at b
    rw [pk_end (Int.ofNat_le.mp (Int.not_lt.mp b))] at h
    exact .here h

theorem c_take {c dx : Addr} {d : List Nat} {n : Nat} (z : d.length ≤ 1000000) (C : CurAt H c dx d n) (hn : n < d.length) (h : k (.int (pk d n)) (curH H dx d (n + 1 : Nat))) (lv : Nat.ble L 58 = true := by rfl) : CallX G L (.ref 110) [.ref c] H k := by
  refine fn_goX f110 ?_ lv
  have hp := pk_lt hn
  repeat' (first | infer_instance | fail)
  refine c_peek z C ?_
  repeat' (first | infer_instance | fail)
  · exact p_setat C (.here h)
  · rename_i a
    rw [hp] at a
    exact absurd (Int.natCast_nonneg _) a
end

-- c2

section
variable {G : Ctx} {L : Nat} {H : AHeap} {k : KV}
/-- a run of signs from n to e -/
structure Run (f : Int → Bool) (d : List Nat) (n e : Nat) : Prop where
  le : n ≤ e
  len : e ≤ d.length
  all : ∀ i, n ≤ i → i < e → f (pk d i) = true
  stop : f (pk d e) = false
theorem Run.more {f : Int → Bool} {d : List Nat} {n e a : Nat} (R : Run f d n e) (h2 : a ≤ e) (q : f (pk d a) = true) : a < e :=
  Nat.lt_of_le_of_ne h2 fun z => by rw [z, R.stop] at q; cases q
theorem Run.over {f : Int → Bool} {d : List Nat} {n e a : Nat} (R : Run f d n e) (h1 : n ≤ a) (h2 : a ≤ e) (q : f (pk d a) = false) : a = e :=
  Nat.le_antisymm h2 (Nat.le_of_not_lt fun z => by rw [R.all a h1 z] at q; cases q)
theorem Run.nil {f : Int → Bool} {d : List Nat} {n : Nat} (h : n ≤ d.length) (s : f (pk d n) = false) : Run f d n n := ⟨Nat.le_refl _, h, fun _ h1 h2 => absurd h1 (Nat.not_le.mpr h2), s⟩
noncomputable def whiteB (i : Int) : Bool := decide (i ∈ ([9, 10, 13, 32] : List Int))

theorem c_skip {c dx : Addr} {d : List Nat} {n e : Nat} (z : d.length ≤ 1000000) (C : CurAt H c dx d n) (R : Run whiteB d n e) (nb : pk d e ≠ 40) (h : k .none (curH H dx d e)) (lv : Nat.ble L 57 = true := by rfl) : CallX G L (.ref 284) [.ref c] H k := by
  refine fn_goX f284 ?_ lv
  refine wh_go (fun (a : Nat) r' H' => n ≤ a ∧ a ≤ e ∧ r' 0 = some (.ref c) ∧ H' = curH H dx d a) (fun a => e - a) n ⟨Nat.le_refl _, R.le, rfl, (curH_id C).symm⟩ ?_
  rintro a r' H' ⟨h1, h2, hm, rfl⟩
  have C' : CurAt (curH H dx d a) c dx d (a : Nat) := C.cur
  repeat' (first | infer_instance | fail)
  refine c_is_done C' ?_
  repeat' (first | infer_instance | fail)
  · refine c_peek z C' ?_
    repeat' (first | infer_instance | fail)
    · rename_i q
      have lt := R.more h2 (decide_eq_true q)
      refine c_take z C' (Nat.lt_of_lt_of_le lt R.len) ?_
      rw [curH_cur]
      exact bk (a + 1) (Nat.sub_lt_sub_left lt (Nat.lt_succ_self a)) ⟨Nat.le_succ_of_le h1, lt, hm, rfl⟩
    · rename_i q
      cases R.over h1 h2 (decide_eq_false q)
      refine c_peek z C' ?_
      repeat' (first | infer_instance | fail)
      exact .here h
  · cases Nat.le_antisymm h2 (Nat.le_trans R.len ‹_›)
    exact .here h
end

-- c3

theorem set_set {H : AHeap} {a : Addr} {o o' : AObj} : (H.set a o).set a o' = H.set a o' := by
  funext b; unfold AHeap.set; split <;> rfl
theorem set_comm {H : AHeap} {a b : Addr} {o o' : AObj} (n : a ≠ b) : (H.set a o).set b o' = (H.set b o').set a o := by
  funext c; unfold AHeap.set
  by_cases h1 : c = b
  · subst h1; rw [if_pos rfl, if_neg (Ne.symm n), if_pos rfl]
  · rw [if_neg h1, if_neg h1]
theorem curH_set {H : AHeap} {dx a : Addr} {d : List Nat} {i : Int} {o : AObj} (n : a ≠ dx) : (curH H dx d i).set a o = curH (H.set a o) dx d i := by
  unfold curH; exact set_comm (Ne.symm n)
theorem CurAt.set {H : AHeap} {c dx a : Addr} {d : List Nat} {i : Int} {o : AObj} (C : CurAt H c dx d i) (h : H a = none) : CurAt (H.set a o) c dx d i :=
  ⟨by rw [AHeap.set_other (fun e => by rw [← e, C.1] at h; cases h)]; exact C.1, by rw [AHeap.set_other (fun e => by rw [← e, C.2] at h; cases h)]; exact C.2⟩

theorem bytesOf_map (qs : List (List Nat)) : bytesOf (qs.map .bytes) = some qs := by
  induction qs with
  | nil => rfl
  | cons a r ih => simp [bytesOf, ih]
theorem strsOf_map (qs : List (List Nat)) : strsOf (qs.map .str) = some qs := by
  induction qs with
  | nil => rfl
  | cons a r ih => simp [strsOf, ih]
theorem intsOf_map (qs : List Int) : intsOf (qs.map .int) = some qs := by
  induction qs with
  | nil => rfl
  | cons a r ih => simp [intsOf, ih]
theorem joinL_nil : ∀ (qs : List (List Nat)), joinL [] qs = qs.flatten
  | [] => rfl
  | [a] => by simp [joinL]
  | a :: b :: r => by rw [joinL, joinL_nil (b :: r)]; simp
theorem flat_one (l : List Nat) : (l.map fun c => [c]).flatten = l := by
  induction l with
  | nil => rfl
  | cons a r ih => simp [ih]

theorem part_eq {n d i : Nat} {v : Int} (e : v = i) (h : i ≤ n) : partI n d (.int v) = some i := by
  subst e
  simp only [partI, clipI]
  rw [if_neg (by omega)]
  congr 1; omega
theorem part_nat {n d v : Nat} (h : v ≤ n) : partI n d (.int (v : Int)) = some v := part_eq rfl h
theorem part_big {n d i : Nat} {v : Int} (e : v = i) : partI n d (.int v) = some (min i n) := by
  subst e
  simp only [partI, clipI]
  rw [if_neg (by omega)]
  congr 1
theorem cut_one {d : List Nat} {a : Nat} (h : a < d.length) : cut d a (a + 1) = [d[a]] := by
  unfold cut
  rw [List.drop_eq_getElem_cons h]
  have : a + 1 - a = 1 := by omega
  rw [this]; rfl
theorem cut_snoc {d : List Nat} {a b : Nat} (h1 : a ≤ b) (h : b < d.length) : cut d a (b + 1) = cut d a b ++ [d[b]] := by
  unfold cut
  have e : b + 1 - a = (b - a) + 1 := by omega
  rw [e, List.take_add_one]
  congr 1
  rw [List.getElem?_drop]
  have : a + (b - a) = b := by omega
  rw [this, List.getElem?_eq_getElem h]; rfl
theorem cut_self {d : List Nat} {a : Nat} : cut d a a = [] := by simp [cut]
theorem cut_length {d : List Nat} {a b : Nat} : (cut d a b).length ≤ d.length := by simp [cut]; omega

section
variable {G : Ctx} {L : Nat} {H : AHeap} {k : KV}
theorem c_take_token {c dx : Addr} {d : List Nat} {n e : Nat} (z : d.length ≤ 1000000) (C : CurAt H c dx d n) (R : Run tokB d n e) (ne : n < e) (h : k (.bytes (cut d n e)) (curH H dx d e)) (lv : Nat.ble L 57 = true := by rfl) : CallX G L (.ref 291) [.ref c] H k := by
  refine fn_goX f291 ?_ lv
  repeat' (first | infer_instance | fail)
  refine wh_go (fun (a : Nat) r' H' => n ≤ a ∧ a ≤ e ∧ r' 0 = some (.ref c) ∧ r' 1 = some (.int n) ∧ H' = curH H dx d a) (fun a => e - a) n ⟨Nat.le_refl _, R.le, rfl, rfl, (curH_id C).symm⟩ ?_
  rintro a r' H' ⟨h1, h2, hm, hf, rfl⟩
  have C' : CurAt (curH H dx d a) c dx d (a : Nat) := C.cur
  have len := R.len
  repeat' (first | infer_instance | fail)
  refine c_peek z C' ?_
  repeat' (first | infer_instance | fail)
  refine c_is_token ?_
  refine Br.mk (fun q => ?_) (fun q => ?_)
  · have lt := R.more h2 q
    repeat' (first | infer_instance | fail)
    refine c_take z C' (Nat.lt_of_lt_of_le lt len) ?_
    rw [curH_cur]
    exact bk (a + 1) (Nat.sub_lt_sub_left lt (Nat.lt_succ_self a)) ⟨Nat.le_succ_of_le h1, lt, hm, hf, rfl⟩
  · cases R.over h1 h2 q
    repeat' (first | infer_instance | fail)
    · rename_i x; exact absurd (Int.ofNat_inj.mp x) (Nat.ne_of_gt ne)
    · exact p_bslice (i := n) (j := e) ⟨part_nat (Nat.le_trans h1 len), part_nat len⟩ z (.here h)

theorem c_line_end {d : List Nat} {a : Nat} (z : d.length ≤ 1000000) (ha : a < d.length) (h1 : d[a] ≠ 10) (h2 : d[a] ≠ 13) (h : k (.int (-1)) H) (lv : Nat.ble L 59 = true := by rfl) : CallX G L (.ref 248) [.bytes d, .int a] H k := by
  refine fn_goX f248 ?_ lv
  repeat' (first | infer_instance | fail)
  refine p_bslice (i := a) (j := a + 1) ⟨part_eq (by omega) (by omega), part_eq (by omega) (by omega)⟩ z ?_
  rw [cut_one ha]
  repeat' (first | infer_instance | fail)
  · rename_i q; simp at q; exact absurd q h1
  · have e2 : ((a : Int) + 2).toNat = a + 2 := by omega
    refine p_bslice (i := a) (j := min (a + 2) d.length) ⟨part_nat (by omega), part_big (by omega)⟩ z ?_
    repeat' (first | infer_instance | fail)
    · rename_i q
      exfalso
      have : cut d a (min (a + 2) d.length) = d[a] :: (d.drop (a + 1)).take (min (a + 2) d.length - a - 1) := by
        unfold cut
        rw [List.drop_eq_getElem_cons ha]
        have : min (a + 2) d.length - a = (min (a + 2) d.length - a - 1) + 1 := by omega
        rw [this, List.take_succ_cons]; rfl
      rw [this] at q
      simp at q
      exact h2 q.1
    · exact .here h

theorem p_bitemN {x : List Nat} {a : Nat} (z : x.length ≤ 1000000) (ha : a < x.length) (h : k (.int (x[a] : Nat)) H) : itemW (.bytes x) (.int a) H k :=
  p_bitem ⟨Nat.le_trans z (Nat.le_of_ble_eq_true rfl), Int.natCast_nonneg _, Int.ofNat_lt.mpr ha⟩ (by rw [Int.toNat_natCast, getD_lt ha]; exact h)
theorem nat_ne {a b : Nat} (h : a ≠ b) : ¬ (a : Int) = b := fun q => h (Int.ofNat_inj.mp q)
theorem nat_nle {a b : Nat} (h : a < b) : ¬ (b : Int) ≤ a := Int.not_le.mpr (Int.ofNat_lt.mpr h)
theorem lenz {α : Type} {x : List α} (z : x.length ≤ 1000000) : x.length ≤ 16777216 := Nat.le_trans z (Nat.le_of_ble_eq_true rfl)
noncomputable def plainIn (c : Nat) : Prop := c ≠ 92 ∧ c ≠ 0 ∧ c ≠ 10 ∧ c ≠ 13
theorem c_inside {d : List Nat} {a : Nat} {bg : PV} (z : d.length ≤ 1000000) (ha : a < d.length) (hp : plainIn d[a]) (h : k (.tup [.bytes [d[a]], .int (a + 1 : Nat)]) H) (lv : Nat.ble L 58 = true := by rfl) : CallX G L (.ref 255) [.bytes d, .int a, bg] H k := by
  obtain ⟨p1, p2, p3, p4⟩ := hp
  have n1 := nat_nle ha
  have n2 : ¬ ((d[a] : Nat) : Int) = 92 := nat_ne p1
  have n3 : ¬ (((d[a] : Nat) : Int) ∈ ([0, 10, 13] : List Int)) := fun q =>
    (List.mem_cons.mp q).elim (nat_ne p2) fun q => (List.mem_cons.mp q).elim (nat_ne p3) fun q => nat_ne p4 (List.mem_singleton.mp q)
  refine fn_goX f255 ?_ lv
  repeat' (first | infer_instance | fail)
  refine x_lenb (lenz z) ?_
  repeat' (first | infer_instance | fail)
  refine p_bitemN z ha ?_
  repeat' (first | infer_instance | fail)
  refine p_bitemN z ha ?_
  repeat' (first | infer_instance | fail)
  refine c_line_end z ha p3 p4 ?_
  repeat' (first | infer_instance | fail)
  refine p_bitemN z ha ?_
  repeat' (first | infer_instance | fail)
  refine p_bslice (i := a) (j := a + 1) ⟨part_nat (Nat.le_of_lt ha), part_nat ha⟩ z ?_
  rw [cut_one ha]
  exact .here h
end

-- c4

section
variable {G : Ctx} {L : Nat} {H : AHeap} {k : KV}
/-- a quoted text from b to its closing sign e -/
structure Quoted (d : List Nat) (b e : Nat) : Prop where
  lt : b < e
  len : e < d.length
  stop : pk d e = 34
  all : ∀ i, b < i → i < e → ∃ h : i < d.length, d[i] ≠ 34 ∧ plainIn d[i]

/-- the octets from a to b, each alone, as a list's items -/
noncomputable def ones (d : List Nat) (a b : Nat) : AObj := .list (((cut d a b).map fun c => [c]).map .bytes)
theorem c_closed {d : List Nat} {b e : Nat} (z : d.length ≤ 1000000) (zb : ∀ i (h : i < d.length), d[i] < 256) (R : Quoted d b e) (h : k (.tup [.bytes (cut d (b + 1) e), .int (e + 1 : Nat)]) H) (lv : Nat.ble L 57 = true := by rfl) : CallX G L (.ref 262) [.bytes d, .int b, .bytes [34], .bytes []] H k := by
  refine fn_goX f262 ?_ lv
  have r1 := R.lt
  have r2 := R.len
  refine s_new fun M hL => ?_
  refine wh_go (fun (a : Nat) r' H' => b + 1 ≤ a ∧ a ≤ e ∧ r' 0 = some (.bytes d) ∧ r' 1 = some (.int b) ∧ r' 2 = some (.bytes [34]) ∧ r' 3 = some (.bytes []) ∧
    r' 4 = some (.ref M) ∧ r' 5 = some (.int a) ∧ H' = H.set M (ones d (b + 1) a)) (fun a => e - a) (b + 1) ⟨Nat.le_refl _, r1, rfl, rfl, rfl, rfl, rfl, rfl, by rw [ones, cut_self]; rfl⟩ ?_
  rintro a r' H' ⟨h1, h2, hm1, hm2, hm3, hm4, hm5, hm6, rfl⟩
  have hH : (H.set M (ones d (b + 1) a)) M = some (ones d (b + 1) a) := AHeap.set_same _ _ _
  have cl := @cut_length d (b + 1) a
  have ad : a < d.length := Nat.lt_of_le_of_lt h2 r2
  repeat' (first | infer_instance | fail)
  refine p_bslice (i := a) (j := a + 1) ⟨part_nat (Nat.le_of_lt ad), part_nat ad⟩ z ?_
  rw [cut_one ad]
  repeat' (first | infer_instance | fail)
  · rename_i q
    have lt : a < e := Nat.lt_of_le_of_ne h2 fun ae => q (by
      subst ae
      have := R.stop
      rw [pk_lt r2] at this
      rw [Int.ofNat_inj.mp this])
    obtain ⟨_, x1, x2⟩ := R.all a h1 lt
    refine x_lenb (lenz z) ?_
    have n1 : (a : Int) < d.length := Int.ofNat_lt.mpr ad
    repeat' (first | infer_instance | fail)
    refine p_bitemN z ad ?_
    repeat' (first | infer_instance | fail)
    refine p_in_bytes (a := []) ⟨Nat.zero_le _, Int.natCast_nonneg _, Int.ofNat_lt.mpr (zb a ad)⟩ ?_
    repeat' (first | infer_instance | fail)
    refine c_inside z ad x2 ?_
    repeat' (first | infer_instance | fail)
    refine x_append hH (by rw [List.length_map, List.length_map]; exact Nat.le_trans cl (lenz z)) ?_
    rw [set_set]
    exact bk (a + 1) (Nat.sub_lt_sub_left lt (Nat.lt_succ_self a)) ⟨Nat.le_succ_of_le h1, lt, hm1, hm2, hm3, hm4, hm5, rfl, by rw [ones, cut_snoc h1 ad, List.map_append, List.map_append]; rfl⟩
  · rename_i q
    have ae : a = e := Nat.le_antisymm h2 (Nat.le_of_not_lt fun x => by
      obtain ⟨ha, x1, _⟩ := R.all a h1 x
      exact x1 (List.cons.inj q).1)
    subst ae
    have jn : joinL [] ((cut d (b + 1) a).map fun c => [c]) = cut d (b + 1) a := (joinL_nil _).trans (flat_one _)
    refine x_bjoin hH (bytesOf_map _) ⟨by rw [jn]; exact Nat.le_trans cl z, by rw [List.length_map, List.length_map]; exact Nat.le_trans cl z⟩ ?_
    rw [jn]
    repeat' (first | infer_instance | fail)
    exact .to (AHeap.Le.set hL) h

theorem c_take_quoted {c dx : Addr} {d : List Nat} {n e : Nat} (z : d.length ≤ 1000000) (zb : ∀ i (h : i < d.length), d[i] < 256) (C : CurAt H c dx d n) (q34 : pk d n = 34) (R : Quoted d n e) (h : k (.bytes (cut d (n + 1) e)) (curH H dx d (e + 1 : Nat))) (lv : Nat.ble L 56 = true := by rfl) : CallX G L (.ref 305) [.ref c] H k := by
  refine fn_goX f305 ?_ lv
  repeat' (first | infer_instance | fail)
  refine c_peek z C ?_
  repeat' (first | infer_instance | fail)
  refine c_closed z zb R ?_
  repeat' (first | infer_instance | fail)
  exact p_setat C (.here h)

theorem c_take_word {c dx : Addr} {d : List Nat} {n e : Nat} (z : d.length ≤ 1000000) (C : CurAt H c dx d n) (q34 : pk d n ≠ 34) (R : Run worthB d n e) (ne : n < e) (h : k (.bytes (cut d n e)) (curH H dx d e)) (lv : Nat.ble L 57 = true := by rfl) : CallX G L (.ref 305) [.ref c] H k := by
  refine fn_goX f305 ?_ lv
  repeat' (first | infer_instance | fail)
  refine c_peek z C ?_
  repeat' (first | infer_instance | fail)
  refine wh_go (fun (a : Nat) r' H' => n ≤ a ∧ a ≤ e ∧ r' 0 = some (.ref c) ∧ r' 2 = some (.int n) ∧ H' = curH H dx d a) (fun a => e - a) n ⟨Nat.le_refl _, R.le, rfl, rfl, (curH_id C).symm⟩ ?_
  rintro a r' H' ⟨h1, h2, hm, hf, rfl⟩
  have C' : CurAt (curH H dx d a) c dx d (a : Nat) := C.cur
  have len := R.len
  repeat' (first | infer_instance | fail)
  refine c_peek z C' ?_
  repeat' (first | infer_instance | fail)
  refine c_is_worth ?_
  refine Br.mk (fun q => ?_) (fun q => ?_)
  · have lt := R.more h2 q
    repeat' (first | infer_instance | fail)
    refine c_take z C' (Nat.lt_of_lt_of_le lt len) ?_
    rw [curH_cur]
    exact bk (a + 1) (Nat.sub_lt_sub_left lt (Nat.lt_succ_self a)) ⟨Nat.le_succ_of_le h1, lt, hm, hf, rfl⟩
  · cases R.over h1 h2 q
    repeat' (first | infer_instance | fail)
    · rename_i x; exact absurd (Int.ofNat_inj.mp x) (Nat.ne_of_gt ne)
    · exact p_bslice (i := n) (j := e) ⟨part_nat (Nat.le_trans h1 len), part_nat len⟩ z (.here h)

/-! small words -/
noncomputable def lowN (c : Nat) : Nat := if 65 ≤ c ∧ c ≤ 90 then c + 32 else c
theorem low_cast (c : Nat) : lowI (c : Int) = (lowN c : Int) := by unfold lowI lowN; split <;> split <;> omega
theorem lowN_lt {c n : Nat} (h : c < n) (hn : 123 ≤ n) : lowN c < n := by unfold lowN; split <;> omega

noncomputable def lowP : PV → PV
  | .int i => .int (lowI i)
  | p => p
noncomputable def chrP : PV → PV
  | .int i => .str [i.toNat]
  | p => p
noncomputable def lowS : PV → PV
  | .str [c] => .str [lowN c]
  | p => p
theorem c_lower {d : List Nat} (z : d.length ≤ 1000000) (zb : ∀ c ∈ d, c < 256) (h : k (.bytes (d.map lowN)) H) (lv : Nat.ble L 58 = true := by rfl) : CallX G L (.ref 171) [.bytes d] H k := by
  refine fn_goX f171 ?_ lv
  refine i_bytes (lenz z) (comp_map lowP trivial ?_ (by rw [List.length_map]; exact lenz z) fun r' => ?_)
  · intro x hx r' k' hk'
    obtain ⟨c, hc, rfl⟩ := List.mem_map.mp hx
    exact c_lower_code hk'
  · refine s_new fun M hL => ?_
    have e : (d.map fun c => (lowN c : Int)).map Int.toNat = d.map lowN := by rw [List.map_map]; rfl
    refine x_bytes (ns := d.map fun c => (lowN c : Int)) (AHeap.set_same _ _ _) ?_ ⟨by rw [List.length_map, List.length_map]; exact z, fun n hn => ?_⟩ (.to (AHeap.Le.set hL) (by rw [e]; exact h))
    · rw [← intsOf_map, List.map_map, List.map_map]
      exact congrArg intsOf (List.map_congr_left fun c _ => congrArg PV.int (low_cast c))
    · obtain ⟨c, hc, rfl⟩ := List.mem_map.mp hn
      exact ⟨Int.natCast_nonneg _, Int.ofNat_lt.mpr (lowN_lt (zb c hc) (Nat.le_of_ble_eq_true rfl))⟩

theorem join_ones {ps : List PV} {l : List Nat} (e : strsOf ps = some (l.map fun c => [c])) (M : Addr) (zl : l.length ≤ 1000000) (zp : ps.length ≤ 1000000) {r : AHeap} (hr : r M = some (.list ps)) (h : k (.str l) r) : CallX G L (.bi "str.join") [.str (cs ""), .ref M] r k := by
  have jn : joinL [] (l.map fun c => [c]) = l := (joinL_nil _).trans (flat_one _)
  refine x_sjoin (x := []) hr e ⟨by rw [jn]; exact zl, zp⟩ ?_
  rw [jn]; exact h
theorem c_small {d : List Nat} (z : d.length ≤ 1000000) (zb : ∀ c ∈ d, c < 256) (h : k (.str (d.map lowN)) H) (lv : Nat.ble L 57 = true := by rfl) : CallX G L (.ref 310) [.bytes d] H k := by
  refine fn_goX f310 ?_ lv
  refine c_lower z zb ?_
  have zl : (d.map lowN).length ≤ 1000000 := by rw [List.length_map]; exact z
  refine i_bytes (lenz zl) (comp_map chrP trivial ?_ (by rw [List.length_map]; exact lenz zl) fun r' => ?_)
  · intro x hx r' k' hk'
    obtain ⟨c, hc, rfl⟩ := List.mem_map.mp hx
    obtain ⟨b, hb, rfl⟩ := List.mem_map.mp hc
    exact x_chr ⟨Int.natCast_nonneg _, Int.ofNat_lt.mpr (Nat.lt_of_lt_of_le (lowN_lt (zb b hb) (Nat.le_of_ble_eq_true rfl)) (Nat.le_of_ble_eq_true rfl))⟩ hk'
  · refine s_new fun M hL => ?_
    repeat' (first | infer_instance | fail)
    refine join_ones (l := d.map lowN) ?_ M zl (by rw [List.length_map, List.length_map]; exact zl) (AHeap.set_same _ _ _) (.to (AHeap.Le.set hL) h)
    rw [← strsOf_map, List.map_map, List.map_map, List.map_map, List.map_map]
    rfl

theorem c_lower_text {d : List Nat} (z : d.length ≤ 1000000) (zb : ∀ c ∈ d, c < 256) (h : k (.str (d.map lowN)) H) (lv : Nat.ble L 58 = true := by rfl) : CallX G L (.ref 176) [.str d] H k := by
  refine fn_goX f176 ?_ lv
  have zl : (d.map lowN).length ≤ 1000000 := by rw [List.length_map]; exact z
  refine i_str ⟨lenz z, fun c hc => Nat.lt_of_lt_of_le (zb c hc) (Nat.le_of_ble_eq_true rfl)⟩ (comp_map lowS trivial ?_ (by rw [List.length_map]; exact lenz z) fun r' => ?_)
  · intro x hx r' k' hk'
    obtain ⟨c, hc, rfl⟩ := List.mem_map.mp hx
    refine x_ord (c_lower_code ?_)
    rw [low_cast]
    exact x_chr ⟨Int.natCast_nonneg _, Int.ofNat_lt.mpr (Nat.lt_of_lt_of_le (lowN_lt (zb c hc) (Nat.le_of_ble_eq_true rfl)) (Nat.le_of_ble_eq_true rfl))⟩ hk'
  · refine s_new fun M hL => ?_
    repeat' (first | infer_instance | fail)
    refine join_ones (l := d.map lowN) ?_ M zl (by rw [List.length_map, List.length_map]; exact z) (AHeap.set_same _ _ _) (.to (AHeap.Le.set hL) h)
    rw [← strsOf_map, List.map_map, List.map_map, List.map_map]
    rfl
end

-- c5

section
variable {G : Ctx} {L : Nat} {H : AHeap} {k : KV}
/-- a worth's text from n: its end and its octets -/
noncomputable def WorthAt (d : List Nat) (n p : Nat) (v : List Nat) : Prop :=
  (pk d n = 34 ∧ ∃ e, p = e + 1 ∧ Quoted d n e ∧ v = cut d (n + 1) e) ∨ (pk d n ≠ 34 ∧ n < p ∧ Run worthB d n p ∧ v = cut d n p)
theorem WorthAt.le {d : List Nat} {n p : Nat} {v : List Nat} (h : WorthAt d n p v) : n < p ∧ p ≤ d.length := by
  rcases h with ⟨_, e, rfl, q, _⟩ | ⟨_, q, r, _⟩
  · have := q.lt; have := q.len; omega
  · have := r.len; omega

theorem c_take_worth {c dx : Addr} {d v : List Nat} {n p : Nat} (z : d.length ≤ 1000000) (zb : ∀ i (h : i < d.length), d[i] < 256) (C : CurAt H c dx d n) (R : WorthAt d n p v) (h : k (.bytes v) (curH H dx d p)) (lv : Nat.ble L 56 = true := by rfl) : CallX G L (.ref 305) [.ref c] H k := by
  rcases R with ⟨q, e, rfl, R, rfl⟩ | ⟨q, ne, R, rfl⟩
  · exact c_take_quoted z zb C q R h lv
  · exact c_take_word z C q R ne h (Nat.ble_eq_true_of_le (Nat.le_trans (Nat.le_of_ble_eq_true lv) (Nat.le_of_ble_eq_true rfl)))

/-- a row of the joined text: from the semicolon at n to the next place -/
structure RowAt (d : List Nat) (n : Nat) (name v : List Nat) (e : Nat) : Prop where
  semi : pk d n = 59
  ex : ∃ p1 p2 p3, Run whiteB d (n + 1) p1 ∧ pk d p1 ≠ 40 ∧ pk d p1 ≠ 59 ∧ p1 < p2 ∧ Run tokB d p1 p2 ∧ name = cut d p1 p2 ∧ Run whiteB d p2 p2 ∧ pk d p2 = 61 ∧ Run whiteB d (p2 + 1) (p2 + 1) ∧ pk d (p2 + 1) ≠ 40 ∧ WorthAt d (p2 + 1) p3 v ∧
    Run whiteB d p3 e ∧ pk d e ≠ 40
inductive RowsAt (d : List Nat) : Nat → List (List Nat × List Nat) → Prop
  | nil : RowsAt d d.length []
  | cons {n e : Nat} {nm v : List Nat} {r : List (List Nat × List Nat)} : RowAt d n nm v e → RowsAt d e r → RowsAt d n ((nm, v) :: r)

noncomputable def rowP (r : List Nat × List Nat) : PV := .tup [.str (r.1.map lowN), .bytes r.2]

theorem pk_bound {d : List Nat} {n : Nat} (h : 0 ≤ pk d n) : n < d.length := by
  rcases Nat.lt_or_ge n d.length with x | x
  · exact x
  · rw [pk_end x] at h; omega

theorem mem_cut {d : List Nat} {a b c : Nat} (h : c ∈ cut d a b) : c ∈ d := List.mem_of_mem_drop (List.mem_of_mem_take h)

theorem c_take_pairs {c dx : Addr} {d : List Nat} {n : Nat} {rows : List (List Nat × List Nat)} (z : d.length ≤ 1000000) (zb : ∀ i (h : i < d.length), d[i] < 256) (C : CurAt H c dx d n) (R0 : Run whiteB d n n) (nb : pk d n ≠ 40) (R : RowsAt d n rows)
    (zr : rows.length ≤ 1000) (h : ∀ L, H L = none → k (.ref L) (curH (H.set L (.list (rows.map rowP))) dx d d.length)) (lv : Nat.ble L 55 = true := by rfl) : CallX G L (.ref 317) [.ref c] H k := by
  have zb' : ∀ x ∈ d, x < 256 := fun x hx => by
    obtain ⟨i, hi, rfl⟩ := List.getElem_of_mem hx
    exact zb i hi
  refine fn_goX f317 ?_ lv
  refine s_new fun M hL => ?_
  have CL := C.set (o := .list []) hL
  have nL : M ≠ dx := by rintro rfl; rw [C.2] at hL; cases hL
  repeat' (first | infer_instance | fail)
  refine c_skip z CL R0 nb ?_
  rw [curH_id CL]
  refine wh_go (fun (x : Nat × List (List Nat × List Nat) × List (List Nat × List Nat)) r' H' => rows = x.2.1 ++ x.2.2 ∧ RowsAt d x.1 x.2.2 ∧ r' 0 = some (.ref c) ∧ r' 1 = some (.ref M) ∧ H' = curH (H.set M (.list (x.2.1.map rowP))) dx d x.1)
    (fun x => x.2.2.length) (n, [], rows) ⟨rfl, R, rfl, rfl, (curH_id CL).symm⟩ ?_
  rintro ⟨a, done, rest⟩ r' H' ⟨hr, R', hm1, hm2, rfl⟩
  dsimp only at hr R' ⊢
  have CL' := C.set (o := .list (done.map rowP)) hL
  have C' : CurAt (curH (H.set M (.list (done.map rowP))) dx d a) c dx d (a : Nat) := CL'.cur
  have dl : done.length ≤ 1000 := by rw [hr, List.length_append] at zr; exact Nat.le_trans (Nat.le_add_right _ _) zr
  repeat' (first | infer_instance | fail)
  refine c_is_done C' ?_
  cases R' with
  | nil =>
    have q := Nat.le_refl d.length
    repeat' (first | infer_instance | fail)
    rw [List.append_nil] at hr
    subst hr
    exact .here (h M hL)
  | @cons _ e nm v r row rr =>
    obtain ⟨semi, p1, p2, p3, w1, n1, n2, l12, tk, rfl, w2, eq, w3, n3, wo, w4, n4⟩ := row
    have al : a < d.length := pk_bound (by omega)
    have p2l : p2 < d.length := pk_bound (by omega)
    have al' := Nat.not_le.mpr al
    have p1l' : ¬ d.length ≤ p1 := Nat.not_le.mpr (Nat.lt_trans l12 p2l)
    repeat' (first | infer_instance | fail)
    refine c_take z C' al ?_
    rw [curH_cur, semi]
    repeat' (first | infer_instance | fail)
    refine c_skip z CL'.cur w1 n1 ?_
    rw [curH_cur]
    have C1 : CurAt (curH (H.set M (.list (done.map rowP))) dx d p1) c dx d p1 := CL'.cur
    repeat' (first | infer_instance | fail)
    refine c_is_done C1 ?_
    repeat' (first | infer_instance | fail)
    refine c_peek z C1 ?_
    repeat' (first | infer_instance | fail)
    refine c_take_token z C1 tk l12 ?_
    rw [curH_cur]
    repeat' (first | infer_instance | fail)
    refine c_small (Nat.le_trans cut_length z) (fun x hx => zb' x (mem_cut hx)) ?_
    have C2 : CurAt (curH (H.set M (.list (done.map rowP))) dx d p2) c dx d p2 := CL'.cur
    repeat' (first | infer_instance | fail)
    refine c_skip z C2 w2 (by rw [eq]; decide) ?_
    rw [curH_cur]
    repeat' (first | infer_instance | fail)
    refine c_take z C2 p2l ?_
    rw [curH_cur, eq]
    repeat' (first | infer_instance | fail)
    refine c_skip z CL'.cur w3 n3 ?_
    rw [curH_cur]
    have C3 : CurAt (curH (H.set M (.list (done.map rowP))) dx d (p2 + 1 : Nat)) c dx d (p2 + 1 : Nat) := CL'.cur
    have hL' : curH (H.set M (.list (done.map rowP))) dx d (p2 + 1 : Nat) M = some (.list (done.map rowP)) := by rw [curH_other nL]; exact AHeap.set_same _ _ _
    repeat' (first | infer_instance | fail)
    refine c_take_worth z zb C3 wo ?_
    rw [curH_cur]
    have hL2 : curH (H.set M (.list (done.map rowP))) dx d p3 M = some (.list (done.map rowP)) := by rw [curH_other nL]; exact AHeap.set_same _ _ _
    refine x_append hL2 (by rw [List.length_map]; exact Nat.le_trans dl (Nat.le_of_ble_eq_true rfl)) ?_
    rw [curH_set nL, set_set]
    have CL2 := C.set (o := .list (done.map rowP ++ [.tup [.str ((cut d p1 p2).map lowN), .bytes v]])) hL
    repeat' (first | infer_instance | fail)
    refine c_skip z CL2.cur w4 n4 ?_
    rw [curH_cur]
    exact bk (e, done ++ [(cut d p1 p2, v)], r) (Nat.lt_succ_self _) ⟨by rw [hr, List.append_assoc]; rfl, rr, hm1, hm2, by rw [List.map_append]; rfl⟩
end

-- c6

section
variable {G : Ctx} {L : Nat} {H : AHeap} {k : KV}
theorem p_sle1 {a b : Nat} {k : KV} (h : k (.bool (decide (a ≤ b))) H) (G : Ctx := by assumption) : cmpH G.prog G.w G.B .LtE (.str [a]) (.str [b]) H k := by
  show CmpS G.prog G.w G.B .LtE (.str [a]) (.str [b]) H k
  intro A s E Q u v hA hU W hu hv P
  obtain ⟨t, rfl⟩ := V_str.mp hu
  obtain ⟨t', rfl⟩ := V_str.mp hv
  refine PySem.P.le_str (P.here W (V_bool.mpr (congrArg Value.bool ?_)) h)
  show (!decide ([b] < [a])) = decide (a ≤ b)
  have : ([b] < [a]) ↔ b < a := ⟨fun q => (by cases q with
      | rel q => exact q
      | cons q => cases q), fun q => List.Lex.rel q⟩
  rw [decide_eq_decide.mpr this, ← decide_not]
  exact decide_eq_decide.mpr Nat.not_lt

noncomputable def numLoop : Int → List Nat → Int
  | n, [] => n
  | n, c :: r => if 48 ≤ c ∧ c ≤ 57 then numLoop (10 * n + c - 48) r else -1
noncomputable def partNum (f : List Nat) : Int := if f = [] ∨ 3 < f.length ∨ (f.getD 0 0 = 48 ∧ 1 < f.length) then -1 else numLoop 0 f

theorem numLoop_ok {n : Int} {c : Nat} {r : List Nat} (h1 : 48 ≤ c) (h2 : c ≤ 57) : numLoop n (c :: r) = numLoop (10 * n + c - 48) r := if_pos ⟨h1, h2⟩
theorem numLoop_no {n : Int} {c : Nat} {r : List Nat} (h : ¬ (48 ≤ c ∧ c ≤ 57)) : numLoop n (c :: r) = -1 := if_neg h
theorem c_part_number {f : List Nat} (z : f.length ≤ 1000000) (zb : ∀ c ∈ f, c < 256) (h : k (.int (partNum f)) H) (lv : Nat.ble L 59 = true := by rfl) : CallX G L (.ref 324) [.str f] H k := by
  refine fn_goX f324 ?_ lv
  have g : ∀ r, r = partNum f → Ret k (.int r) H := fun r e => .here (e ▸ h)
  have out : partNum f = numLoop 0 f → XSs G (59 + 1) (match b324 with | .cons _ r => r | _ => .nil) (argS [.str f] 0) H (retR k) := fun hne => by
    refine i_str ⟨lenz z, fun c hc => Nat.lt_of_lt_of_le (zb c hc) (Nat.le_of_ble_eq_true rfl)⟩ ?_
    refine for_gen (fun rest r' H' => H' = H ∧ ∃ (r : List Nat) (nn : Int), rest = r.map (fun c => .str [c]) ∧ r' 1 = some (.int nn) ∧ numLoop nn r = partNum f) ?_ ?_ _ _ _ ⟨rfl, f, 0, rfl, rfl, hne.symm⟩
    · rintro r' H' ⟨rfl, r, nn, hr, hm, hn⟩
      cases r with
      | cons => cases hr
      | nil =>
        repeat' (first | infer_instance | fail)
        exact g _ hn
    · rintro x xs r' H' ⟨rfl, r, nn, hr, hm, hn⟩ k' hk'
      cases r with
      | nil => cases hr
      | cons c r =>
        rw [List.map_cons, List.cons.injEq] at hr
        obtain ⟨rfl, rfl⟩ := hr
        refine p_sle1 (a := 48) (b := c) ?_
        repeat' (first | infer_instance | fail)
        · refine p_sle1 (a := c) (b := 57) ?_
          repeat' (first | infer_instance | fail)
          · rename_i q1 q2
            exact hk' (.ret (.int (-1))) _ _ (g _ ((numLoop_no fun q => q2 q.2).symm.trans hn))
          · rename_i q1 q2
            refine p_mul ⟨by decide, by decide⟩ ?_
            repeat' (first | infer_instance | fail)
            refine hk' .next _ _ ?_
            exact ⟨trivial, rfl, r, _, rfl, rfl, (numLoop_ok q1 q2).symm.trans hn⟩
        · rename_i q
          exact hk' (.ret (.int (-1))) _ _ (g _ ((numLoop_no fun z => q z.1).symm.trans hn))
  repeat' (first | infer_instance | fail)
  · rename_i q; exact g _ (if_pos (.inl q)).symm
  rename_i q0
  have fl : 0 < f.length := List.length_pos_iff.mpr q0
  have ne : partNum f = numLoop 0 f ∨ (3 < f.length ∨ f.getD 0 0 = 48 ∧ 1 < f.length) := by
    by_cases c : (3 < f.length ∨ f.getD 0 0 = 48 ∧ 1 < f.length)
    · exact .inr c
    · exact .inl (if_neg fun q => q.elim q0 c)
  refine x_lens (lenz z) ?_
  repeat' (first | infer_instance | fail)
  · rename_i q; exact g _ (if_pos (.inr (.inl (Int.ofNat_lt.mp q)))).symm
  rename_i q3
  have q3 : ¬ 3 < f.length := fun x => q3 (Int.ofNat_lt.mpr x)
  refine p_sitem ⟨lenz z, by decide, Int.ofNat_lt.mpr fl⟩ ?_
  repeat' (first | infer_instance | fail)
  · rename_i q
    have q : f.getD 0 0 = 48 := (List.cons.inj q).1
    refine x_lens (lenz z) ?_
    repeat' (first | infer_instance | fail)
    · rename_i q1; exact g _ (if_pos (.inr (.inr ⟨q, Int.ofNat_lt.mp q1⟩))).symm
    · rename_i q1
      exact out (ne.resolve_right fun z => z.elim q3 fun z => q1 (Int.ofNat_lt.mpr z.2))
  · rename_i q
    exact out (ne.resolve_right fun z => z.elim q3 fun z => q (congrArg (fun c => [c]) z.1))

/-! part_of -/
noncomputable def partOf (f : List Nat) : Option (List Nat × Int × Bool) :=
  if 42 ∈ f ∧ 0 < f.idxOf 42 then
    if f.getD (f.length - 1) 0 = 42 then
      if f.idxOf 42 = f.length - 1 then some (f.take (f.idxOf 42), 0, true)
      else if 0 ≤ partNum (cut f (f.idxOf 42 + 1) (f.length - 1)) then some (f.take (f.idxOf 42), partNum (cut f (f.idxOf 42 + 1) (f.length - 1)), true) else none
    else if 0 ≤ partNum (f.drop (f.idxOf 42 + 1)) then some (f.take (f.idxOf 42), partNum (f.drop (f.idxOf 42 + 1)), false) else none
  else none
noncomputable def partP : Option (List Nat × Int × Bool) → PV
  | some (b, n, e) => .tup [.str b, .int n, .bool e]
  | none => .none

theorem cut_take {d : List Nat} {a : Nat} : cut d 0 a = d.take a := by simp [cut]
theorem cut_drop {d : List Nat} {a : Nat} : cut d a d.length = d.drop a := by
  unfold cut
  rw [List.take_of_length_le]; simp

theorem c_part_of {f : List Nat} (z : f.length ≤ 1000000) (zb : ∀ c ∈ f, c < 256) (h : k (partP (partOf f)) H) (lv : Nat.ble L 58 = true := by rfl) : CallX G L (.ref 331) [.str f] H k := by
  refine fn_goX f331 ?_ lv
  have g : ∀ r, r = partP (partOf f) → Ret k r H := fun r e => .here (e ▸ h)
  have zc : ∀ a b, ∀ c ∈ cut f a b, c < 256 := fun a b c hc => zb c (mem_cut hc)
  have cl : ∀ a b, (cut f a b).length ≤ 1000000 := fun a b => Nat.le_trans cut_length z
  repeat' (first | infer_instance | fail)
  refine x_find (c := 42) z ?_
  by_cases hm : 42 ∈ f
  case neg =>
    rw [if_neg hm]
    repeat' (first | infer_instance | fail)
    refine g _ ?_
    rw [partOf, if_neg (fun q => hm q.1)]; rfl
  rw [if_pos hm]
  have hlt : f.idxOf 42 < f.length := List.idxOf_lt_length_iff.mpr hm
  have hle := Nat.le_of_lt hlt
  repeat' (first | infer_instance | fail)
  · rename_i q
    refine g _ ?_
    rw [partOf, if_neg (fun x => by have := x.2; omega)]; rfl
  rename_i q
  have hpos : 0 < f.idxOf 42 := by omega
  refine p_slast ⟨lenz z, Nat.lt_of_le_of_lt (Nat.zero_le _) hlt⟩ ?_
  have sl : ∀ {Q : KV}, Q (.str (f.take (f.idxOf 42))) H → sliceW (.str f) .none (.int (f.idxOf 42)) .none H Q := fun h => p_sslice (i := 0) (j := f.idxOf 42) ⟨rfl, part_nat hle⟩ z (by rw [cut_take]; exact h)
  by_cases e : f.getD (f.length - 1) 0 = 42
  · have ee : [f.getD (f.length - 1) 0] = cs "*" := congrArg (fun c => [c]) e
    repeat' (first | infer_instance | fail)
    refine x_lens (lenz z) ?_
    repeat' (first | infer_instance | fail)
    · rename_i q1
      refine sl ?_
      refine g _ ?_
      rw [partOf, if_pos ⟨hm, hpos⟩, if_pos e, if_pos (by omega)]; rfl
    · rename_i q1
      refine x_lens (lenz z) ?_
      repeat' (first | infer_instance | fail)
      refine p_sslice (i := f.idxOf 42 + 1) (j := f.length - 1) ⟨part_eq (by omega) (by omega), part_eq (by omega) (by omega)⟩ z ?_
      refine c_part_number (cl _ _) (zc _ _) ?_
      repeat' (first | infer_instance | fail)
      · rename_i q2
        refine sl ?_
        refine g _ ?_
        rw [decide_eq_true ee, partOf, if_pos ⟨hm, hpos⟩, if_pos e, if_neg (by omega), if_pos q2]; rfl
      · rename_i q2
        refine g _ ?_
        rw [partOf, if_pos ⟨hm, hpos⟩, if_pos e, if_neg (by omega), if_neg q2]; rfl
  · have ee : ¬ [f.getD (f.length - 1) 0] = cs "*" := fun q => e (List.cons.inj q).1
    repeat' (first | infer_instance | fail)
    refine p_sslice (lo := .int (f.idxOf 42 + 1)) (hi := .none) (i := f.idxOf 42 + 1) (j := f.length) ⟨part_nat hlt, rfl⟩ z ?_
    refine c_part_number (cl _ _) (zc _ _) ?_
    rw [cut_drop]
    repeat' (first | infer_instance | fail)
    · rename_i q2
      refine sl ?_
      refine g _ ?_
      rw [decide_eq_false ee, partOf, if_pos ⟨hm, hpos⟩, if_neg e, if_pos q2]; rfl
    · rename_i q2
      refine g _ ?_
      rw [partOf, if_pos ⟨hm, hpos⟩, if_neg e, if_neg q2]; rfl
end

-- c7

noncomputable def HEX : List Nat := [48, 49, 50, 51, 52, 53, 54, 55, 56, 57, 65, 66, 67, 68, 69, 70]
noncomputable def upc (c : Nat) : Nat := if 97 ≤ c ∧ c ≤ 102 then c - 32 else c
noncomputable def isHex (c : Nat) : Prop := upc c ∈ HEX ∧ c < 256
noncomputable def hv (c : Nat) : Nat := HEX.idxOf (upc c)
theorem hv_lt {c : Nat} (h : isHex c) : hv c < 16 := List.idxOf_lt_length_iff.mpr h.1
theorem upc_lt {c : Nat} (h : c < 256) : upc c < 256 := by unfold upc; split <;> omega
noncomputable def upP : PV → PV
  | .int i => .int (if 97 ≤ i ∧ i ≤ 102 then i - 32 else i)
  | p => p
theorem up_cast (c : Nat) : (if 97 ≤ (c : Int) ∧ (c : Int) ≤ 102 then (c : Int) - 32 else c) = (upc c : Int) := by unfold upc; split <;> split <;> omega

/-- a unit of percent-encoded text -/
inductive PU | lit (c : Nat) | hex (a b : Nat)
noncomputable def PU.txt : PU → List Nat
  | .lit c => [c]
  | .hex a b => [37, a, b]
noncomputable def PU.val : PU → Nat
  | .lit c => c
  | .hex a b => 16 * hv a + hv b
noncomputable def PU.ok : PU → Prop
  | .lit c => c ≠ 37 ∧ c < 256
  | .hex a b => isHex a ∧ isHex b
noncomputable def ptxt (us : List PU) : List Nat := us.flatMap PU.txt

theorem cut_mid {d p q r : List Nat} {a b : Nat} (e : d = p ++ q ++ r) (ha : a = p.length) (hb : b = a + q.length) : cut d a b = q := by
  subst e ha hb
  unfold cut
  rw [List.append_assoc, List.drop_left, Nat.add_sub_cancel_left, List.take_left]

section
variable {G : Ctx} {L : Nat} {H : AHeap} {k : KV}
theorem p_bat {x : List Nat} {n : Int} {c : Nat} (h0 : Nat.ble x.length 1000 = true) (h1 : decide (0 ≤ n ∧ n < x.length) = true) (e : x.getD n.toNat 0 = c) (h : k (.int c) H) : itemW (.bytes x) (.int n) H k :=
  p_bitem ⟨Nat.le_trans (Nat.le_of_ble_eq_true h0) (Nat.le_of_ble_eq_true rfl), of_decide_eq_true h1⟩ (by rw [e]; exact h)
theorem c_hex {a b : Nat} (ha : isHex a) (hb : isHex b) (h : k (.int ((16 * hv a + hv b : Nat) : Int)) H) (lv : Nat.ble L 59 = true := by rfl) : CallX G L (.ref 336) [.bytes [a, b]] H k := by
  refine fn_goX f336 ?_ lv
  have a1 := upc_lt ha.2
  have b1 := upc_lt hb.2
  have a2 : upc a ∈ HEX := ha.1
  have b2 : upc b ∈ HEX := hb.1
  refine i_bytes (Nat.le_of_ble_eq_true rfl) (comp_map upP trivial ?_ (Nat.le_of_ble_eq_true rfl) fun r' => ?_)
  · intro x hx r' k' hk'
    obtain ⟨c, hc, rfl⟩ := List.mem_map.mp hx
    have hk' : k' (.int (if 97 ≤ (c : Int) ∧ (c : Int) ≤ 102 then (c : Int) - 32 else c)) H := hk'
    repeat' (first | infer_instance | fail)
    · rename_i q1 q2; rw [if_pos ⟨q1, q2⟩] at hk'; exact hk'
    · rename_i q1 q2; rw [if_neg (fun q => q2 q.2)] at hk'; exact hk'
    · rename_i q1; rw [if_neg (fun q => q1 q.1)] at hk'; exact hk'
  · refine s_new fun M hL => ?_
    refine x_bytes (ns := [(upc a : Int), (upc b : Int)]) (AHeap.set_same _ _ _) (by rw [← up_cast a, ← up_cast b]; rfl) ⟨Nat.le_of_ble_eq_true rfl, fun n hn => ?_⟩ ?_
    · rcases List.mem_cons.mp hn with rfl | hn
      · exact ⟨Int.natCast_nonneg _, Int.ofNat_lt.mpr a1⟩
      · rw [List.mem_singleton.mp hn]; exact ⟨Int.natCast_nonneg _, Int.ofNat_lt.mpr b1⟩
    have i0 := fun {Q : KV} {H : AHeap} (h : Q (.int (upc a)) H) => p_bat (x := [upc a, upc b]) (n := 0) rfl rfl rfl h
    have i1 := fun {Q : KV} {H : AHeap} (h : Q (.int (upc b)) H) => p_bat (x := [upc a, upc b]) (n := 1) rfl rfl rfl h
    have na : ¬¬ (upc a : Int).toNat ∈ HEX := fun q => q a2
    have nb : ¬¬ (upc b : Int).toNat ∈ HEX := fun q => q b2
    have cn := fun {c : Nat} (h : c < 256) => (⟨Nat.le_of_ble_eq_true rfl, Int.natCast_nonneg _, Int.ofNat_lt.mpr h⟩ : HEX.length ≤ 1000000 ∧ 0 ≤ (c : Int) ∧ (c : Int) < 256)
    refine x_lenb (x := [upc a, upc b]) (Nat.le_of_ble_eq_true rfl) ?_
    repeat' (first | infer_instance | fail)
    refine i0 ?_
    refine p_notin_bytes (a := HEX) (cn a1) ?_
    repeat' (first | infer_instance | fail)
    refine i1 ?_
    refine p_notin_bytes (a := HEX) (cn b1) ?_
    repeat' (first | infer_instance | fail)
    refine i0 ?_
    refine x_index (x := HEX) ⟨(cn a1).1, (cn a1).2.1, (cn a1).2.2, a2⟩ ?_
    refine p_mul ⟨by decide, by decide⟩ ?_
    repeat' (first | infer_instance | fail)
    refine i1 ?_
    refine x_index (x := HEX) ⟨(cn b1).1, (cn b1).2.1, (cn b1).2.2, b2⟩ ?_
    exact .to (AHeap.Le.set hL) h

theorem ptxt_length (us : List PU) : us.length ≤ (ptxt us).length := by
  induction us with
  | nil => simp [ptxt]
  | cons u r ih => rw [ptxt, List.flatMap_cons, List.length_append]; unfold ptxt at ih; cases u <;> simp only [PU.txt, List.length_cons, List.length_nil] <;> omega
theorem PU.val_lt {u : PU} (h : u.ok) : u.val < 256 := by
  cases u with
  | lit c => exact h.2
  | hex a b => have := hv_lt h.1; have := hv_lt h.2; show 16 * hv a + hv b < 256; omega

/-- what is decoded, as a list's items -/
noncomputable def pvals (us : List PU) : AObj := .list ((us.map fun u => (u.val : Int)).map .int)
theorem pvals_snoc {us : List PU} {u : PU} : AObj.list (((us.map fun u => (u.val : Int)).map PV.int) ++ [.int u.val]) = pvals (us ++ [u]) := by rw [pvals, List.map_append, List.map_append]; rfl
theorem ptxt_app {us vs : List PU} : ptxt (us ++ vs) = ptxt us ++ ptxt vs := List.flatMap_append
theorem c_percent {us : List PU} (ok : ∀ u ∈ us, u.ok) (z : (ptxt us).length ≤ 1000000) (h : k (.bytes (us.map PU.val)) H) (lv : Nat.ble L 58 = true := by rfl) : CallX G L (.ref 343) [.bytes (ptxt us)] H k := by
  refine fn_goX f343 ?_ lv
  have ul := Nat.le_trans (ptxt_length us) z
  refine s_new fun M hL => ?_
  refine wh_go (fun (x : List PU × List PU) r' H' => us = x.1 ++ x.2 ∧ r' 0 = some (.bytes (ptxt us)) ∧ r' 1 = some (.ref M) ∧ r' 2 = some (.int (ptxt x.1).length) ∧
    H' = H.set M (pvals x.1)) (fun x => x.2.length) ([], us) ⟨rfl, rfl, rfl, rfl, rfl⟩ ?_
  rintro ⟨done, rest⟩ r' H' ⟨hu, hm1, hm2, hm3, rfl⟩
  dsimp only at hu hm3 ⊢
  have e : ptxt us = ptxt done ++ ptxt rest := by rw [hu, ptxt_app]
  have tl : (ptxt us).length = (ptxt done).length + (ptxt rest).length := by rw [e, List.length_append]
  have dl : done.length ≤ us.length := by rw [hu, List.length_append]; exact Nat.le_add_right _ _
  have zl : ((done.map fun u => (u.val : Int)).map PV.int).length ≤ 16777216 := by rw [List.length_map, List.length_map]; exact lenz (Nat.le_trans dl ul)
  have hH : (H.set M (pvals done)) M = some (pvals done) := AHeap.set_same _ _ _
  have at0 : ∀ {c : Nat} {r : List Nat}, ptxt rest = c :: r → ∀ {Q : KV} {H : AHeap}, Q (.int c) H → itemW (.bytes (ptxt us)) (.int (ptxt done).length) H Q := fun {c r} q {Q H} h =>
    p_bitem ⟨lenz z, Int.natCast_nonneg _, Int.ofNat_lt.mpr (by rw [tl, q, List.length_cons]; omega)⟩ (by
      rw [Int.toNat_natCast, e, q, List.getD_eq_getElem?_getD, List.getElem?_append_right (Nat.le_refl _), Nat.sub_self]; exact h)
  repeat' (first | infer_instance | fail)
  refine x_lenb (lenz z) ?_
  cases rest with
  | nil =>
    have q : ¬ ((ptxt done).length : Int) < (ptxt us).length := by rw [tl]; exact Int.lt_irrefl _
    repeat' (first | infer_instance | fail)
    rw [List.append_nil] at hu; subst hu
    refine x_bytes hH (intsOf_map _) ⟨by rw [List.length_map, List.length_map]; exact ul, fun n hn => ?_⟩ ?_
    · obtain ⟨u, hu, rfl⟩ := List.mem_map.mp hn
      exact ⟨Int.natCast_nonneg _, Int.ofNat_lt.mpr (PU.val_lt (ok u hu))⟩
    · rw [List.map_map]
      exact .to (AHeap.Le.set hL) h
  | cons u r =>
    have hok := ok u (by rw [hu]; exact List.mem_append_right _ (.head _))
    have q : ((ptxt done).length : Int) < (ptxt us).length := Int.ofNat_lt.mpr (by have := ptxt_length (u :: r); rw [List.length_cons] at this; omega)
    have hu' : us = (done ++ [u]) ++ r := by rw [hu, List.append_assoc]; rfl
    cases u with
    | lit c =>
      have n1 : ¬ (c : Int) = 37 := nat_ne hok.1
      repeat' (first | infer_instance | fail)
      refine at0 rfl ?_
      repeat' (first | infer_instance | fail)
      refine at0 rfl ?_
      refine x_append hH zl ?_
      repeat' (first | infer_instance | fail)
      rw [set_set]
      exact bk (done ++ [.lit c], r) (Nat.lt_succ_self _) ⟨hu', hm1, hm2, congrArg (fun n : Nat => some (PV.int n)) (show (ptxt done).length + 1 = _ by rw [ptxt_app, List.length_append]; rfl), by rw [← pvals_snoc]; rfl⟩
    | hex a b =>
      have n1 : ¬ ((16 * hv a + hv b : Nat) : Int) < 0 := Int.not_lt.mpr (Int.natCast_nonneg _)
      have rl : (ptxt (PU.hex a b :: r)).length = 3 + (ptxt r).length := by rw [Nat.add_comm]; rfl
      repeat' (first | infer_instance | fail)
      refine at0 rfl ?_
      repeat' (first | infer_instance | fail)
      refine p_bslice (x := ptxt us) (i := (ptxt done).length + 1) (j := (ptxt done).length + 3) ⟨part_eq rfl (by omega), part_eq rfl (by omega)⟩ z ?_
      rw [show cut (ptxt us) ((ptxt done).length + 1) ((ptxt done).length + 3) = [a, b] from cut_mid (p := ptxt done ++ [37]) (r := ptxt r) (by rw [e, List.append_assoc, List.append_assoc]; rfl) (by rw [List.length_append]; rfl) rfl]
      refine c_hex hok.1 hok.2 ?_
      repeat' (first | infer_instance | fail)
      refine x_append hH zl ?_
      repeat' (first | infer_instance | fail)
      rw [set_set]
      exact bk (done ++ [.hex a b], r) (Nat.lt_succ_self _) ⟨hu', hm1, hm2, congrArg (fun n : Nat => some (PV.int n)) (show (ptxt done).length + 3 = _ by rw [ptxt_app, List.length_append]; rfl), by rw [← pvals_snoc]; rfl⟩
end

-- c8

noncomputable def putAll (kv : List (List Nat × PV)) (xs : List (List Nat)) (v : PV) : List (List Nat × PV) := xs.foldl (fun kv x => sput kv x v) kv
theorem sput_len (kv : List (List Nat × PV)) (x : List Nat) (v : PV) : (sput kv x v).length ≤ kv.length + 1 := by
  unfold sput; split
  · rw [List.length_map]; exact Nat.le_succ _
  · rw [List.length_append]; exact Nat.le_refl _
noncomputable def asciiNames : List (List Nat) := [cs "us-ascii", cs "ascii", cs "ansi_x3.4-1968", cs "iso_646.irv:1991", cs "iso-ir-6", cs "iso646-us", cs "us", cs "cp367", cs "ibm367"]
noncomputable def latinNames : List (List Nat) := [cs "iso-8859-1", cs "iso_8859-1", cs "iso_8859-1:1987", cs "iso-ir-100", cs "latin1", cs "l1", cs "cp819", cs "ibm819"]
noncomputable def utfNames : List (List Nat) := [cs "utf-8", cs "utf8"]
noncomputable def NK : List (List Nat × List Nat) := asciiNames.map (·, cs "us-ascii") ++ latinNames.map (·, cs "iso-8859-1") ++ utfNames.map (·, cs "utf-8")
noncomputable def namesKv : List (List Nat × PV) := NK.map fun p => (p.1, .str p.2)
theorem names_eq : putAll (putAll (putAll [] asciiNames (.str (cs "us-ascii"))) latinNames (.str (cs "iso-8859-1"))) utfNames (.str (cs "utf-8")) = namesKv := by kernel_rfl
/-- the charset that a name means, or nothing -/
noncomputable def csn (t : List Nat) : List Nat := ((NK.find? fun p => decide (p.1 = t.map lowN)).map (·.2)).getD []
theorem csn_get (t : List Nat) : (sget namesKv (t.map lowN)).getD (.str []) = .str (csn t) := by
  unfold sget namesKv csn
  rw [List.find?_map]
  cases h : NK.find? ((fun p : List Nat × PV => decide (p.1 = t.map lowN)) ∘ fun p => (p.1, PV.str p.2)) with
  | none =>
    have h' : NK.find? (fun p => decide (p.1 = t.map lowN)) = none := h
    rw [h']; rfl
  | some p =>
    have h' : NK.find? (fun p => decide (p.1 = t.map lowN)) = some p := h
    rw [h']; rfl

section
variable {G : Ctx} {L : Nat} {H : AHeap} {k : KV}
theorem put_loop {v : PV} {M : Addr} {step : PV → Slots → AHeap → KF → Prop} {K : KF} (hstep : ∀ x kv ep r k', kv.length ≤ 1000 → r 0 = some (.ref M) → (∀ ep', k' .next (r.put 1 (.str x)) (H.set M (.sdict (sput kv x v) ep'))) → step (.str x) r (H.set M (.sdict kv ep)) k') :
    ∀ {names : List (List Nat)} {kv : List (List Nat × PV)} {ep : Nat} {r : Slots}, r 0 = some (.ref M) → kv.length + names.length ≤ 1000 → (∀ r ep, r 0 = some (.ref M) → K .next r (H.set M (.sdict (putAll kv names v) ep))) → XForF step none K (names.map .str) r (H.set M (.sdict kv ep))
  | [], kv, ep, r, hL, lim, hend => hend r ep hL
  | c :: names, kv, ep, r, hL, lim, hend => hstep c kv ep r _ (Nat.le_trans (Nat.le_add_right _ _) lim) hL fun ep' => ⟨trivial, put_loop hstep hL (by have := sput_len kv c v; rw [List.length_cons] at lim; omega) hend⟩

theorem c_charset_names (h : ∀ L ep, H L = none → k (.ref L) (H.set L (.sdict namesKv ep))) (lv : Nat.ble L 59 = true := by rfl) : CallX G L (.ref 184) [] H k := by
  refine fn_goX f184 ?_ lv
  refine s_new fun M hL => ?_
  have key : ∀ x v kv ep (kk : AHeap → Prop), kv.length ≤ 1000 → (∀ ep', kk (H.set M (.sdict (sput kv x v) ep'))) → setItemW (.ref M) (.str x) v (H.set M (.sdict kv ep)) kk := fun x v kv ep kk hk h =>
    p_setsd (AHeap.set_same _ _ _) (Nat.le_trans hk (Nat.le_of_ble_eq_true rfl)) fun ep' => by rw [set_set]; exact h ep'
  refine i_tup (ps := asciiNames.map .str) ?_
  refine put_loop (v := .str (cs "us-ascii")) (names := asciiNames) (M := M) ?_ (by rfl) (Nat.le_of_ble_eq_true (by kernel_rfl)) fun r ep hm => ?_
  · intro x kv ep r k' hk hm hk'
    repeat' (first | infer_instance | fail)
    exact key _ _ _ _ _ hk hk'
  refine i_tup (ps := latinNames.map .str) ?_
  refine put_loop (v := .str (cs "iso-8859-1")) (names := latinNames) (M := M) ?_ hm (Nat.le_of_ble_eq_true (by kernel_rfl)) fun r ep hm => ?_
  · intro x kv ep r k' hk hm hk'
    repeat' (first | infer_instance | fail)
    exact key _ _ _ _ _ hk hk'
  refine i_tup (ps := utfNames.map .str) ?_
  refine put_loop (v := .str (cs "utf-8")) (names := utfNames) (M := M) ?_ hm (Nat.le_of_ble_eq_true (by kernel_rfl)) fun r ep hm => ?_
  · intro x kv ep r k' hk hm hk'
    repeat' (first | infer_instance | fail)
    exact key _ _ _ _ _ hk hk'
  rw [names_eq]
  repeat' (first | infer_instance | fail)
  exact .here (h M ep hL)

theorem c_charset_name {t : List Nat} (z : t.length ≤ 1000000) (zb : ∀ c ∈ t, c < 256) (h : k (.str (csn t)) H) (lv : Nat.ble L 57 = true := by rfl) : CallX G L (.ref 191) [.str t] H k := by
  refine fn_goX f191 ?_ lv
  refine c_charset_names fun M ep hL => ?_
  have gM : (H.set M (.sdict namesKv ep)) M = some (.sdict namesKv ep) := AHeap.set_same _ _ _
  repeat' (first | infer_instance | fail)
  refine c_lower_text z zb ?_
  refine x_gets (AHeap.set_same _ _ _) ?_
  rw [show cs "" = [] from rfl, csn_get]
  exact .to (AHeap.Le.set hL) h

noncomputable def CH3 : List (List Nat) := [cs "us-ascii", cs "iso-8859-1", cs "utf-8"]
theorem c_need {c : List Nat} (hc : c ∈ CH3) (h : k .none H) (lv : Nat.ble L 59 = true := by rfl) : CallX G L (.ref 198) [.str c] H k := by
  refine fn_goX f198 ?_ lv
  have hc : c ∈ [cs "us-ascii", cs "iso-8859-1", cs "utf-8"] := hc
  repeat' (first | infer_instance | fail)
  exact .here h

theorem c_follower2 {a : Nat} (h1 : 194 ≤ a) (h2 : a ≤ 223) (h : k (.tup [.int 128, .int 191, .int 1]) H) (lv : Nat.ble L 59 = true := by rfl) : CallX G L (.ref 205) [.int a] H k := by
  refine fn_goX f205 ?_ lv
  have h1 : (194 : Int) ≤ a := Int.ofNat_le.mpr h1
  have h2 : (a : Int) ≤ 223 := Int.ofNat_le.mpr h2
  repeat' (first | infer_instance | fail)
  exact .here h

theorem c_follower3 (h : k (.tup [.int 128, .int 191, .int 2]) H) (lv : Nat.ble L 59 = true := by rfl) : CallX G L (.ref 205) [.int 226] H k := by
  refine fn_goX f205 ?_ lv
  repeat' (first | infer_instance | fail)
  refine s_new fun M hL => ?_
  have gM : (H.set M (.idict [(224, .int 160)])) M = some (.idict [(224, .int 160)]) := AHeap.set_same _ _ _
  repeat' (first | infer_instance | fail)
  refine x_geti gM ?_
  refine s_new fun M' hL' => ?_
  have gM : ((H.set M (.idict [(224, .int 160)])).set M' (.idict [(237, .int 159)])) M' = some (.idict [(237, .int 159)]) := AHeap.set_same _ _ _
  repeat' (first | infer_instance | fail)
  refine x_geti gM ?_
  exact .to ((AHeap.Le.set hL).trans (AHeap.Le.set hL')) h

/-! signs -/
inductive Sg8 : List Nat → Nat → Prop
  | one {c : Nat} (h : c < 128) : Sg8 [c] c
  | two {a b : Nat} (h1 : 194 ≤ a) (h2 : a ≤ 223) (h3 : 128 ≤ b) (h4 : b ≤ 191) : Sg8 [a, b] (a % 32 * 64 + b % 64)
  | three {b c : Nat} (h1 : 128 ≤ b) (h2 : b ≤ 191) (h3 : 128 ≤ c) (h4 : c ≤ 191) : Sg8 [226, b, c] ((226 % 16 * 64 + b % 64) * 64 + c % 64)
theorem at_mid {d p q r : List Nat} {i : Nat} (e : d = p ++ q ++ r) (h : i < q.length) : d.getD (p.length + i) 0 = q.getD i 0 := by
  subst e
  rw [List.append_assoc]
  simp [List.getD, List.getElem?_append_right, List.getElem?_append_left, h]
theorem Sg8.pos {bs : List Nat} {c : Nat} (h : Sg8 bs c) : 0 < bs.length := by cases h <;> simp
theorem Sg8.lt {bs : List Nat} {c : Nat} (h : Sg8 bs c) : c < 1114112 := by cases h <;> omega

theorem at_it {d p q r : List Nat} {i : Nat} {Q : KV} {n : Int} (e : d = p ++ q ++ r) (z : d.length ≤ 1000000) (h : i < q.length) (hn : n = (p.length + i : Nat)) (k : Q (.int (q.getD i 0 : Nat)) H) : itemW (.bytes d) (.int n) H Q := by
  subst hn
  refine p_bitem ⟨lenz z, Int.natCast_nonneg _, Int.ofNat_lt.mpr ?_⟩ (by rw [Int.toNat_natCast, at_mid e h]; exact k)
  rw [e, List.length_append, List.length_append]
  exact Nat.lt_of_lt_of_le (Nat.add_lt_add_left h _) (Nat.le_add_right _ _)
theorem in_mid {d p q r : List Nat} {i : Nat} {n : Int} (e : d = p ++ q ++ r) (h : i < q.length) (hn : n = (p.length + i : Nat)) : ¬ (d.length : Int) ≤ n := by
  subst hn
  refine nat_nle ?_
  rw [e, List.length_append, List.length_append]
  exact Nat.lt_of_lt_of_le (Nat.add_lt_add_left h _) (Nat.le_add_right _ _)
theorem c_utf8 {d p bs r : List Nat} {c : Nat} (e : d = p ++ bs ++ r) (z : d.length ≤ 1000000) (hs : Sg8 bs c) (h : k (.tup [.int c, .int bs.length]) H) (lv : Nat.ble L 58 = true := by rfl) : CallX G L (.ref 212) [.bytes d, .int p.length] H k := by
  have nn : ∀ {a b : Nat}, a ≤ b → (a : Int) ≤ b := fun h => Int.ofNat_le.mpr h
  refine fn_goX f212 ?_ lv
  cases hs with
  | @one c hc =>
    have hc : (c : Int) < 128 := Int.ofNat_lt.mpr hc
    refine at_it (i := 0) e z (Nat.lt_succ_self _) rfl ?_
    repeat' (first | infer_instance | fail)
    exact .here h
  | @two a b h1 h2 h3 h4 =>
    have i1 := nn h3
    have i2 := nn h4
    have i3 : ¬ (a : Int) < 128 := by omega
    refine at_it (i := 0) e z (Nat.zero_lt_succ _) rfl ?_
    repeat' (first | infer_instance | fail)
    refine c_follower2 h1 h2 ?_
    repeat' (first | infer_instance | fail)
    refine p_rsh (by decide) ?_
    refine p_mod (by decide) ?_
    repeat' (first | infer_instance | fail)
    refine i_rng (a := 1) (b := 2) (xs := [.int 1]) rfl (by decide) ?_
    repeat' (first | infer_instance | fail)
    refine x_lenb (lenz z) ?_
    have n1 := in_mid (i := 1) (n := (p.length : Int) + 1) e (Nat.lt_succ_self _) rfl
    repeat' (first | infer_instance | fail)
    refine at_it (i := 1) e z (Nat.lt_succ_self _) rfl ?_
    repeat' (first | infer_instance | fail)
    refine p_mul ⟨by show -(2 ^ 64) < (a : Int) % 32; omega, by show (a : Int) % 32 < 2 ^ 64; omega⟩ ?_
    repeat' (first | infer_instance | fail)
    refine at_it (i := 1) e z (Nat.lt_succ_self _) rfl ?_
    refine p_mod (by decide) ?_
    refine And.intro trivial ?_
    repeat' (first | infer_instance | fail)
    exact .here h
  | @three b c h1 h2 h3 h4 =>
    have i1 := nn h1
    have i2 := nn h2
    have i3 := nn h3
    have i4 := nn h4
    refine at_it (i := 0) e z (Nat.zero_lt_succ _) rfl ?_
    repeat' (first | infer_instance | fail)
    refine c_follower3 ?_
    repeat' (first | infer_instance | fail)
    refine p_rsh (by decide) ?_
    refine p_mod (by decide) ?_
    repeat' (first | infer_instance | fail)
    refine i_rng (a := 1) (b := 3) (xs := [.int 1, .int 2]) rfl (by decide) ?_
    repeat' (first | infer_instance | fail)
    refine x_lenb (lenz z) ?_
    have n1 := in_mid (i := 1) (n := (p.length : Int) + 1) e (Nat.lt_succ_of_lt (Nat.lt_succ_self _)) rfl
    repeat' (first | infer_instance | fail)
    refine at_it (i := 1) e z (Nat.lt_succ_of_lt (Nat.lt_succ_self _)) rfl ?_
    repeat' (first | infer_instance | fail)
    refine p_mul ⟨by show -(2 ^ 64) < ((226 : Nat) : Int) % 16; omega, by show ((226 : Nat) : Int) % 16 < 2 ^ 64; omega⟩ ?_
    repeat' (first | infer_instance | fail)
    refine at_it (i := 1) e z (Nat.lt_succ_of_lt (Nat.lt_succ_self _)) rfl ?_
    refine p_mod (by decide) ?_
    refine And.intro trivial ?_
    repeat' (first | infer_instance | fail)
    refine x_lenb (lenz z) ?_
    have n2 := in_mid (i := 2) (n := (p.length : Int) + 2) e (Nat.lt_succ_self _) rfl
    repeat' (first | infer_instance | fail)
    refine at_it (i := 2) e z (Nat.lt_succ_self _) rfl ?_
    repeat' (first | infer_instance | fail)
    refine p_mul ⟨by show -(2 ^ 64) < ((226 : Nat) : Int) % 16 * 64 + (b : Int) % 64; omega, by show ((226 : Nat) : Int) % 16 * 64 + (b : Int) % 64 < 2 ^ 64; omega⟩ ?_
    repeat' (first | infer_instance | fail)
    refine at_it (i := 2) e z (Nat.lt_succ_self _) rfl ?_
    refine p_mod (by decide) ?_
    refine And.intro trivial ?_
    repeat' (first | infer_instance | fail)
    exact .here h
end

-- c9

noncomputable def Sg (ch bs : List Nat) (c : Nat) : Prop := (ch = cs "utf-8" ∧ Sg8 bs c) ∨ (ch = cs "iso-8859-1" ∧ c < 256 ∧ bs = [c]) ∨ (ch = cs "us-ascii" ∧ c < 128 ∧ bs = [c])
theorem Sg.pos {ch bs : List Nat} {c : Nat} (h : Sg ch bs c) : 0 < bs.length := by
  rcases h with ⟨_, h⟩ | ⟨_, _, rfl⟩ | ⟨_, _, rfl⟩
  · exact h.pos
  · exact Nat.lt_succ_self _
  · exact Nat.lt_succ_self _
theorem Sg.lt {ch bs : List Nat} {c : Nat} (h : Sg ch bs c) : c < 1114112 := by
  rcases h with ⟨_, h⟩ | ⟨_, _, rfl⟩ | ⟨_, _, rfl⟩
  · exact h.lt
  · omega
  · omega
theorem Sg.known {ch bs : List Nat} {c : Nat} (h : Sg ch bs c) : ch ∈ CH3 := by
  rcases h with ⟨rfl, _⟩ | ⟨rfl, _⟩ | ⟨rfl, _⟩
  · exact .tail _ (.tail _ (.head _))
  · exact .tail _ (.head _)
  · exact .head _
noncomputable def utxt (us : List (List Nat × Nat)) : List Nat := us.flatMap (·.1)
theorem utxt_len {ch : List Nat} {us : List (List Nat × Nat)} (ok : ∀ u ∈ us, Sg ch u.1 u.2) : us.length ≤ (utxt us).length := by
  induction us with
  | nil => simp [utxt]
  | cons u r ih =>
    have := ih fun v hv => ok v (.tail _ hv)
    have := (ok u (.head _)).pos
    simp only [utxt, List.flatMap_cons, List.length_append, List.length_cons] at *
    omega
theorem utxt_app {us vs : List (List Nat × Nat)} : utxt (us ++ vs) = utxt us ++ utxt vs := List.flatMap_append
theorem utxt_one {u : List Nat × Nat} : (utxt [u]).length = u.1.length := by rw [utxt, List.flatMap_cons, List.length_append]; rfl
theorem csNe : cs "iso-8859-1" ≠ cs "utf-8" ∧ cs "us-ascii" ≠ cs "utf-8" ∧ cs "iso-8859-1" ≠ cs "us-ascii" := by decide +kernel

noncomputable def sgns (us : List (List Nat × Nat)) : AObj := .list ((us.map fun u => [u.2]).map .str)
theorem sgns_snoc {us : List (List Nat × Nat)} {u : List Nat × Nat} : AObj.list (((us.map fun u => [u.2]).map PV.str) ++ [.str [u.2]]) = sgns (us ++ [u]) := by rw [sgns, List.map_append, List.map_append]; rfl
theorem tx_join {us : List (List Nat × Nat)} : joinL [] (us.map fun u => [u.2]) = us.map (·.2) := by
  rw [joinL_nil, ← flat_one (us.map (·.2)), List.map_map]; rfl
noncomputable def TxI (ch : List Nat) (us : List (List Nat × Nat)) (H : AHeap) (M : Addr) (x : List (List Nat × Nat) × List (List Nat × Nat)) (r' : Slots) (H' : AHeap) : Prop :=
  us = x.1 ++ x.2 ∧ r' 0 = some (.str ch) ∧ r' 1 = some (.bytes (utxt us)) ∧ r' 2 = some (.ref M) ∧ r' 3 = some (.int (utxt x.1).length) ∧ H' = H.set M (sgns x.1)

section
variable {G : Ctx} {L : Nat} {H : AHeap} {k : KV}
theorem c_sign_at {ch d p bs r : List Nat} {c : Nat} (e : d = p ++ bs ++ r) (z : d.length ≤ 1000000) (hs : Sg ch bs c) (h : k (.tup [.int c, .int bs.length]) H) (lv : Nat.ble L 57 = true := by rfl) : CallX G L (.ref 219) [.str ch, .bytes d, .int p.length] H k := by
  refine fn_goX f219 ?_ lv
  rcases hs with ⟨rfl, hs⟩ | ⟨rfl, hc, rfl⟩ | ⟨rfl, hc, rfl⟩
  · have t : cs "utf-8" = cs "utf-8" := rfl
    repeat' (first | infer_instance | fail)
    exact c_utf8 e z hs (.here h)
  · have n1 := csNe.1
    have n2 := csNe.2.2
    repeat' (first | infer_instance | fail)
    exact at_it (i := 0) e z (Nat.lt_succ_self _) rfl (.here h)
  · have n1 := csNe.2.1
    have t : cs "us-ascii" = cs "us-ascii" := rfl
    have n2 : ¬ (127 : Int) < c := by omega
    repeat' (first | infer_instance | fail)
    refine at_it (i := 0) e z (Nat.lt_succ_self _) rfl ?_
    repeat' (first | infer_instance | fail)
    exact at_it (i := 0) e z (Nat.lt_succ_self _) rfl (.here h)

theorem c_text_in {ch : List Nat} {us : List (List Nat × Nat)} (hch : ch ∈ CH3) (ok : ∀ u ∈ us, Sg ch u.1 u.2) (z : (utxt us).length ≤ 1000000) (h : k (.str (us.map (·.2))) H) (lv : Nat.ble L 56 = true := by rfl) : CallX G L (.ref 226) [.str ch, .bytes (utxt us)] H k := by
  refine fn_goX f226 ?_ lv
  have ul := Nat.le_trans (utxt_len ok) z
  refine c_need hch ?_
  refine s_new fun M hL => ?_
  refine wh_go (TxI ch us H M) (fun x => x.2.length) ([], us) ⟨rfl, rfl, rfl, rfl, rfl, rfl⟩ ?_
  rintro ⟨done, rest⟩ r' H' ⟨hu, hm0, hm1, hm2, hm3, rfl⟩
  dsimp only at hu hm3 ⊢
  have hH : (H.set M (sgns done)) M = some (sgns done) := AHeap.set_same _ _ _
  have e : utxt us = utxt done ++ utxt rest := by rw [hu, utxt_app]
  have tl : (utxt us).length = (utxt done).length + (utxt rest).length := by rw [e, List.length_append]
  have zl : ((done.map fun u => [u.2]).map PV.str).length ≤ 16777216 := by
    rw [List.length_map, List.length_map]
    exact lenz (Nat.le_trans (by rw [hu, List.length_append]; exact Nat.le_add_right _ _) ul)
  repeat' (first | infer_instance | fail)
  refine x_lenb (lenz z) ?_
  cases rest with
  | nil =>
    have q : ¬ ((utxt done).length : Int) < (utxt us).length := by rw [tl]; exact Int.lt_irrefl _
    repeat' (first | infer_instance | fail)
    rw [List.append_nil] at hu; subst hu
    refine x_sjoin (x := []) hH (strsOf_map _) ⟨by rw [tx_join, List.length_map]; exact ul, by rw [List.length_map, List.length_map]; exact ul⟩ ?_
    rw [tx_join]
    exact .to (AHeap.Le.set hL) h
  | cons u r =>
    have hok := ok u (by rw [hu]; exact List.mem_append_right _ (.head _))
    have q : ((utxt done).length : Int) < (utxt us).length := Int.ofNat_lt.mpr (by have := utxt_len (us := u :: r) fun v hv => ok v (by rw [hu]; exact List.mem_append_right _ hv); rw [List.length_cons] at this; omega)
    have q2 : (0 : Int) ≤ u.2 := Int.natCast_nonneg _
    repeat' (first | infer_instance | fail)
    refine c_sign_at (p := utxt done) (bs := u.1) (r := utxt r) (by rw [e, List.append_assoc]; rfl) z hok ?_
    repeat' (first | infer_instance | fail)
    refine x_chr ⟨Int.natCast_nonneg _, Int.ofNat_lt.mpr hok.lt⟩ ?_
    refine x_append hH zl ?_
    repeat' (first | infer_instance | fail)
    rw [set_set]
    exact bk (done ++ [u], r) (Nat.lt_succ_self _) ⟨by rw [hu, List.append_assoc]; rfl, hm0, hm1, hm2, congrArg (fun n : Nat => some (PV.int n)) (show (utxt done).length + u.1.length = _ by rw [utxt_app, List.length_append, utxt_one]), by rw [← sgns_snoc]; rfl⟩

theorem c_strict {us : List (List Nat × Nat)} (ok : ∀ u ∈ us, Sg (cs "utf-8") u.1 u.2) (z : (utxt us).length ≤ 1000000) (h : k (.str (us.map (·.2))) H) (lv : Nat.ble L 56 = true := by rfl) : CallX G L (.ref 233) [.str (cs "utf-8"), .bytes (utxt us)] H k := by
  refine fn_goX f233 ?_ lv
  have ul := Nat.le_trans (utxt_len ok) z
  refine c_need (.tail _ (.tail _ (.head _))) ?_
  refine s_new fun M hL => ?_
  refine wh_go (TxI (cs "utf-8") us H M) (fun x => x.2.length) ([], us) ⟨rfl, rfl, rfl, rfl, rfl, rfl⟩ ?_
  rintro ⟨done, rest⟩ r' H' ⟨hu, hm0, hm1, hm2, hm3, rfl⟩
  dsimp only at hu hm3 ⊢
  have hH : (H.set M (sgns done)) M = some (sgns done) := AHeap.set_same _ _ _
  have e : utxt us = utxt done ++ utxt rest := by rw [hu, utxt_app]
  have tl : (utxt us).length = (utxt done).length + (utxt rest).length := by rw [e, List.length_append]
  have zl : ((done.map fun u => [u.2]).map PV.str).length ≤ 16777216 := by
    rw [List.length_map, List.length_map]
    exact lenz (Nat.le_trans (by rw [hu, List.length_append]; exact Nat.le_add_right _ _) ul)
  repeat' (first | infer_instance | fail)
  refine x_lenb (lenz z) ?_
  cases rest with
  | nil =>
    have q : ¬ ((utxt done).length : Int) < (utxt us).length := by rw [tl]; exact Int.lt_irrefl _
    repeat' (first | infer_instance | fail)
    rw [List.append_nil] at hu; subst hu
    refine x_sjoin (x := []) hH (strsOf_map _) ⟨by rw [tx_join, List.length_map]; exact ul, by rw [List.length_map, List.length_map]; exact ul⟩ ?_
    rw [tx_join]
    exact .to (AHeap.Le.set hL) h
  | cons u r =>
    have hok := ok u (by rw [hu]; exact List.mem_append_right _ (.head _))
    have q : ((utxt done).length : Int) < (utxt us).length := Int.ofNat_lt.mpr (by have := utxt_len (us := u :: r) fun v hv => ok v (by rw [hu]; exact List.mem_append_right _ hv); rw [List.length_cons] at this; omega)
    have q2 : ¬ (u.2 : Int) < 0 := Int.not_lt.mpr (Int.natCast_nonneg _)
    repeat' (first | infer_instance | fail)
    refine c_sign_at (p := utxt done) (bs := u.1) (r := utxt r) (by rw [e, List.append_assoc]; rfl) z hok ?_
    repeat' (first | infer_instance | fail)
    refine x_chr ⟨Int.natCast_nonneg _, Int.ofNat_lt.mpr hok.lt⟩ ?_
    refine x_append hH zl ?_
    repeat' (first | infer_instance | fail)
    rw [set_set]
    exact bk (done ++ [u], r) (Nat.lt_succ_self _) ⟨by rw [hu, List.append_assoc]; rfl, hm0, hm1, hm2, congrArg (fun n : Nat => some (PV.int n)) (show (utxt done).length + u.1.length = _ by rw [utxt_app, List.length_append, utxt_one]), by rw [← sgns_snoc]; rfl⟩

theorem c_guessed {us : List (List Nat × Nat)} (ok : ∀ u ∈ us, Sg (cs "utf-8") u.1 u.2) (z : (utxt us).length ≤ 1000000) (h : k (.str (us.map (·.2))) H) (lv : Nat.ble L 55 = true := by rfl) : CallX G L (.ref 240) [.bytes (utxt us)] H k := by
  refine fn_goX f240 ?_ lv
  exact c_strict ok z (.here h)
end

-- d1

theorem split_one {c n : Nat} {A R : List Nat} (h : c ∉ A) : splitMax c (n + 1) (A ++ c :: R) = A :: splitMax c n R := by
  have tw : (A ++ c :: R).takeWhile (· != c) = A := by
    induction A with
    | nil => simp
    | cons a A ih =>
      have : (a != c) = true := by simp; rintro rfl; exact h (.head _)
      rw [List.cons_append, List.takeWhile_cons, this, if_pos rfl, ih fun q => h (.tail _ q)]
  have dw : (A ++ c :: R).dropWhile (· != c) = c :: R := by
    clear tw
    induction A with
    | nil => simp
    | cons a A ih =>
      have : (a != c) = true := by simp; rintro rfl; exact h (.head _)
      rw [List.cons_append, List.dropWhile_cons, this, if_pos rfl, ih fun q => h (.tail _ q)]
  rw [splitMax_s, if_pos (by simp), tw, dw]
  rfl

inductive PartV : Bool → List Nat → List Nat → Prop
  | raw (w : List Nat) : PartV false w w
  | enc (us : List PU) (ok : ∀ u ∈ us, u.ok) : PartV true (ptxt us) (us.map PU.val)
inductive FirstV : List Nat → Bool → List Nat → List Nat → Prop
  | raw (w : List Nat) : FirstV [] false w w
  | enc (A Bq : List Nat) (us : List PU) (hA : 39 ∉ A) (hB : 39 ∉ Bq) (ha : ∀ c ∈ A, c < 256) (ok : ∀ u ∈ us, u.ok) : FirstV (csn A) true (A ++ 39 :: (Bq ++ 39 :: ptxt us)) (us.map PU.val)

section
variable {G : Ctx} {L : Nat} {H : AHeap} {k : KV}
theorem c_charset_cut {A Bq R : List Nat} (hA : 39 ∉ A) (hB : 39 ∉ Bq) (ha : ∀ c ∈ A, c < 256) (z : (A ++ 39 :: (Bq ++ 39 :: R)).length ≤ 1000000) (h : k (.tup [.str (csn A), .bytes R]) H) (lv : Nat.ble L 56 = true := by rfl) : CallX G L (.ref 348) [.bytes (A ++ 39 :: (Bq ++ 39 :: R))] H k := by
  refine fn_goX f348 ?_ lv
  have al : A.length ≤ 1000000 := by rw [List.length_append] at z; exact Nat.le_trans (Nat.le_add_right _ _) z
  repeat' (first | infer_instance | fail)
  refine x_split (c := 39) (i := 2) ⟨z, by decide, by decide⟩ ?_
  rw [show Int.toNat 2 = 1 + 1 from rfl, split_one hA, split_one hB, splitMax_z]
  refine s_new fun M hL => ?_
  repeat' (first | infer_instance | fail)
  refine x_lenl (AHeap.set_same _ _ _) (Nat.le_of_ble_eq_true rfl) ?_
  repeat' (first | infer_instance | fail)
  refine p_litem (ps := [A, Bq, R].map PV.bytes) (AHeap.set_same _ _ _) ⟨Nat.le_of_ble_eq_true rfl, by decide, of_decide_eq_true rfl⟩ ?_
  refine i_bytes (l := A) (lenz al) (comp_map chrP trivial ?_ (by rw [List.length_map]; exact lenz al) fun r' => ?_)
  · intro x hx r' k' hk'
    obtain ⟨c, hc, rfl⟩ := List.mem_map.mp hx
    exact x_chr ⟨Int.natCast_nonneg _, Int.ofNat_lt.mpr (Nat.lt_of_lt_of_le (ha c hc) (Nat.le_of_ble_eq_true rfl))⟩ hk'
  · refine s_new fun M' hL' => ?_
    have nL : M ≠ M' := by rintro rfl; rw [AHeap.set_same] at hL'; cases hL'
    repeat' (first | infer_instance | fail)
    refine join_ones (l := A) ?_ M' al (by rw [List.length_map, List.length_map]; exact al) (AHeap.set_same _ _ _) ?_
    · rw [← strsOf_map, List.map_map, List.map_map]; rfl
    refine c_charset_name al ha ?_
    repeat' (first | infer_instance | fail)
    refine p_litem (ps := [A, Bq, R].map PV.bytes) (by rw [AHeap.set_other nL]; exact AHeap.set_same _ _ _) ⟨Nat.le_of_ble_eq_true rfl, by decide, of_decide_eq_true rfl⟩ ?_
    exact .to ((AHeap.Le.set hL).trans (AHeap.Le.set hL')) h

/-- the parts of a joined worth: encoded, text, octets -/
abbrev Parts := List (Bool × List Nat × List Nat)
structure PartsOk (kvs : List (Int × PV)) (ps : Parts) (ch : List Nat) : Prop where
  get : ∀ i (h : i < ps.length), iget kvs i = some (.tup [.bool ps[i].1, .bytes ps[i].2.1])
  stop : iget kvs ps.length = none
  ne : 0 < ps.length
  first : ∀ h : 0 < ps.length, FirstV ch ps[0].1 ps[0].2.1 ps[0].2.2
  rest : ∀ i (h : i < ps.length), 0 < i → PartV ps[i].1 ps[i].2.1 ps[i].2.2
  sz : ∀ p ∈ ps, p.2.1.length ≤ 100000 ∧ p.2.2.length ≤ 10000
  len : ps.length ≤ 50
noncomputable def joinOf (ps : Parts) : List Nat := ps.flatMap (·.2.2)
theorem joinOf_take {ps : Parts} {i : Nat} (h : i < ps.length) : joinOf (ps.take (i + 1)) = joinOf (ps.take i) ++ ps[i].2.2 := by
  unfold joinOf
  rw [List.take_add_one, List.getElem?_eq_getElem h, List.flatMap_append]
  congr 1
  simp only [Option.toList_some, List.flatMap_cons, List.flatMap_nil, List.append_nil]
theorem joinOf_len {ps : Parts} (h : ∀ p ∈ ps, p.2.2.length ≤ 10000) : (joinOf ps).length ≤ 10000 * ps.length := by
  induction ps with
  | nil => simp [joinOf]
  | cons p r ih =>
    have := ih fun q hq => h q (.tail _ hq)
    have := h p (.head _)
    simp only [joinOf, List.flatMap_cons, List.length_append, List.length_cons] at *
    omega

theorem ch3_ne {ch : List Nat} (h : ch ∈ CH3) : ch ≠ [] ∧ ch.length ≤ 16777216 := by
  rcases List.mem_cons.mp h with rfl | h
  · exact ⟨by decide +kernel, Nat.le_of_ble_eq_true (by kernel_rfl)⟩
  rcases List.mem_cons.mp h with rfl | h
  · exact ⟨by decide +kernel, Nat.le_of_ble_eq_true (by kernel_rfl)⟩
  cases List.mem_singleton.mp h
  exact ⟨by decide +kernel, Nat.le_of_ble_eq_true (by kernel_rfl)⟩
theorem c_joined {a : Addr} {kvs : List (Int × PV)} {ps : Parts} {ch : List Nat} {us : List (List Nat × Nat)} (e : H a = some (.idict kvs)) (P : PartsOk kvs ps ch) (ej : joinOf ps = utxt us) (hch : ch ∈ CH3 ∨ ch = [])
    (ok : ∀ u ∈ us, Sg (if ch = [] then cs "utf-8" else ch) u.1 u.2) (h : k (.str (us.map (·.2))) H) (lv : Nat.ble L 54 = true := by rfl) : CallX G L (.ref 355) [.ref a] H k := by
  have jl := joinOf_len fun p hp => (P.sz p hp).2
  have pl := P.len
  refine fn_goX f355 ?_ lv
  refine wh_go (fun (i : Nat) r' H' => i ≤ ps.length ∧ r' 0 = some (.ref a) ∧ r' 1 = some (.str (if i = 0 then [] else ch)) ∧ r' 2 = some (.bytes (joinOf (ps.take i))) ∧ r' 3 = some (.int i) ∧ H' = H) (fun i => ps.length - i) 0
    ⟨Nat.zero_le _, rfl, rfl, rfl, rfl, rfl⟩ ?_
  rintro i r' H' ⟨hi, hm1, hm2, hm3, hm4, rfl⟩
  repeat' (first | infer_instance | fail)
  refine p_in_id e ?_
  rcases Nat.lt_or_ge i ps.length with lt | ge
  · have szi := P.sz _ (List.getElem_mem lt)
    have jt := joinOf_take lt
    have cb : (joinOf (ps.take i)).length + ps[i].2.2.length ≤ 16777216 := by
      have jli := joinOf_len (ps := ps.take i) fun p hp => (P.sz p (List.mem_of_mem_take hp)).2
      rw [List.length_take] at jli
      omega
    have Gt := P.get i lt
    have F : i = 0 → FirstV ch ps[i].1 ps[i].2.1 ps[i].2.2 := fun z => by subst z; exact P.first lt
    have F' := P.rest i lt
    have fin : ∀ r', r' 0 = some (.ref a) → r' 1 = some (.str ch) → r' 2 = some (.bytes (joinOf (ps.take i) ++ ps[i].2.2)) → r' 3 = some (.int (i + 1 : Nat)) → ∃ n', n' < ps.length - i ∧ WI (fun (i : Nat) r' H'' => i ≤ ps.length ∧ r' 0 = some (.ref a) ∧ r' 1 = some (.str (if i = 0 then [] else ch)) ∧ r' 2 = some (.bytes (joinOf (ps.take i))) ∧ r' 3 = some (.int i) ∧ H'' = H') (fun i => ps.length - i) n' r' H' :=
      fun r' h0 h1 h2 h3 => bk (i + 1) (Nat.sub_lt_sub_left lt (Nat.lt_succ_self i)) ⟨lt, h0, h1, by rw [jt]; exact h2, h3, rfl⟩
    refine br_y (by rw [Gt]; rfl) ?_
    obtain ⟨⟨en, w, v⟩, hq⟩ : ∃ q, ps[i] = q := ⟨_, rfl⟩
    rw [hq] at szi cb Gt F F' fin
    dsimp only at szi cb Gt F F' fin
    repeat' (first | infer_instance | fail)
    refine p_iditem e Gt ?_
    rcases Nat.eq_zero_or_pos i with i0 | ip
    · have n0 : (i : Int) = 0 := by rw [i0]; rfl
      rw [if_pos i0] at hm2
      cases F i0 with
      | raw =>
        repeat' (first | infer_instance | fail)
        refine p_cat cb ?_
        repeat' (first | infer_instance | fail)
        exact fin _ hm1 hm2 rfl rfl
      | enc A Bq us' hA hB ha ok' =>
        have z1 : (ptxt us').length ≤ 1000000 := by
          have := szi.1
          rw [List.length_append, List.length_cons, List.length_append, List.length_cons] at this
          omega
        repeat' (first | infer_instance | fail)
        refine c_charset_cut hA hB ha (by omega) ?_
        repeat' (first | infer_instance | fail)
        refine c_percent ok' z1 ?_
        refine p_cat cb ?_
        repeat' (first | infer_instance | fail)
        exact fin _ hm1 rfl rfl rfl
    · have n0 : ¬ (i : Int) = 0 := nat_ne (Nat.ne_of_gt ip)
      rw [if_neg (Nat.ne_of_gt ip)] at hm2
      cases F' ip with
      | raw =>
        repeat' (first | infer_instance | fail)
        refine p_cat cb ?_
        repeat' (first | infer_instance | fail)
        exact fin _ hm1 hm2 rfl rfl
      | enc us' ok' =>
        repeat' (first | infer_instance | fail)
        refine c_percent ok' (by omega) ?_
        refine p_cat cb ?_
        repeat' (first | infer_instance | fail)
        exact fin _ hm1 hm2 rfl rfl
  · cases Nat.le_antisymm hi ge
    rw [if_neg (Nat.ne_of_gt P.ne)] at hm2
    rw [List.take_length, ej] at hm3
    have ul : (utxt us).length ≤ 1000000 := by rw [← ej]; omega
    refine br_x (by rw [P.stop]; rfl) ?_
    rcases hch with hch | rfl
    · have hn := ch3_ne hch
      rw [if_neg hn.1] at ok
      repeat' (first | infer_instance | fail)
      refine p_ts hn.2 ?_
      refine br_y (bne_iff_ne.mpr fun z => hn.1 (List.length_eq_zero_iff.mp z)) ?_
      repeat' (first | infer_instance | fail)
      exact c_text_in hch ok ul (.here h)
    · rw [if_pos rfl] at ok
      repeat' (first | infer_instance | fail)
      refine p_ts (Nat.zero_le _) ?_
      repeat' (first | infer_instance | fail)
      exact c_guessed ok ul (.here h)
end

-- d2

theorem le_set {H X : AHeap} {a : Addr} {o : AObj} (le : H.Le X) (h : H a = none) : H.Le (X.set a o) := fun b o' e => by
  rw [AHeap.set_other (fun q => by rw [q, h] at e; cases e)]; exact le b o' e
theorem le_none {H X : AHeap} {a : Addr} (le : H.Le X) (h : X a = none) : H a = none := by
  cases z : H a with
  | none => rfl
  | some o => have := le _ _ z; rw [h] at this; cases this
theorem le_sets {H X : AHeap} {a : Addr} {o : AObj} (le : H.Le X) : (H.set a o).Le (X.set a o) := fun b o' e => by
  by_cases q : b = a
  · subst q; rw [AHeap.set_same] at e ⊢; exact e
  · rw [AHeap.set_other q] at e ⊢; exact le b o' e

theorem sget_srfl {kv : List (List Nat × PV)} {x : List Nat} {v : PV} : (sget (sput kv x v) x) = some v := by
  unfold sget sput
  induction kv with
  | nil => simp
  | cons p r ih =>
    by_cases h : p.1 = x
    · simp [h]
    · simp only [List.any_cons, List.map_cons, decide_eq_false h, Bool.false_or, if_neg h] at ih ⊢
      split
      · rename_i q; rw [if_pos q] at ih; rw [List.find?_cons, decide_eq_false h]; exact ih
      · rename_i q; rw [if_neg q] at ih; rw [List.cons_append, List.find?_cons, decide_eq_false h]; exact ih

theorem sget_one {x : List Nat} {v : PV} : sget [(x, v)] x = some v := by simp [sget]
noncomputable def B0 : List Nat := cs "name"
abbrev PSt := List (List Nat × PV) × List (Int × PV)
noncomputable def pstep (st : PSt) (r : List Nat × List Nat) : PSt := match partOf r.1 with
  | none => (if (sget st.1 r.1).isSome then st.1 else sput st.1 r.1 (.str r.2), st.2)
  | some (_, n, e) => (st.1, if (iget st.2 n).isSome then st.2 else iput st.2 n (.tup [.bool e, .bytes r.2]))
noncomputable def pfold (rows : List (List Nat × List Nat)) : PSt := rows.foldl pstep ([], [])
structure RowOk (r : List Nat × List Nat) : Prop where
  plain : partOf r.1 = none → ∀ c ∈ r.2, c < 128
  base : ∀ b n e, partOf r.1 = some (b, n, e) → b = B0
  z1 : r.1.length ≤ 1000
  z2 : ∀ c ∈ r.1, c < 256
  z3 : r.2.length ≤ 1000000
theorem iput_len (kv : List (Int × PV)) (x : Int) (v : PV) : (iput kv x v).length ≤ kv.length + 1 := by unfold iput; split <;> simp
theorem iput_pos (kv : List (Int × PV)) (x : Int) (v : PV) : iput kv x v ≠ [] := by
  unfold iput; split
  · rename_i h; intro q; rw [List.map_eq_nil_iff] at q; subst q; simp at h
  · simp
noncomputable def rowQ (r : List Nat × List Nat) : PV := .tup [.str r.1, .bytes r.2]

/-- the heap while params_of runs -/
structure PH (H H' : AHeap) (Lp Lq : Addr) (st : PSt) : Prop where
  le : H.Le H'
  fp : H Lp = none
  fq : H Lq = none
  ne : Lp ≠ Lq
  pl : ∃ ep, H' Lp = some (.sdict st.1 ep)
  pd : (st.2 = [] ∧ ∃ ep, H' Lq = some (.sdict [] ep)) ∨ (st.2 ≠ [] ∧ ∃ ep Li, H' Lq = some (.sdict [(B0, .ref Li)] ep) ∧ H' Li = some (.idict st.2) ∧ H Li = none ∧ Li ≠ Lp ∧ Li ≠ Lq)
theorem PH.setP {H H' : AHeap} {Lp Lq : Addr} {st : PSt} {kv : List (List Nat × PV)} {ep : Nat} (P : PH H H' Lp Lq st) : PH H (H'.set Lp (.sdict kv ep)) Lp Lq (kv, st.2) := by
  refine ⟨fun b o e => ?_, P.fp, P.fq, P.ne, ⟨ep, AHeap.set_same _ _ _⟩, ?_⟩
  · rw [AHeap.set_other (fun q => by rw [q, P.fp] at e; cases e)]; exact P.le b o e
  · rcases P.pd with ⟨a, ep', b⟩ | ⟨a, ep', Li, b, c, d, e, f⟩
    · exact .inl ⟨a, ep', by rw [AHeap.set_other (Ne.symm P.ne)]; exact b⟩
    · exact .inr ⟨a, ep', Li, by rw [AHeap.set_other (Ne.symm P.ne)]; exact b, by rw [AHeap.set_other e]; exact c, d, e, f⟩
theorem PH.setI {H H' : AHeap} {Lp Lq Li : Addr} {st : PSt} {kv : List (Int × PV)} {ep : Nat} (le : H.Le H') (fp : H Lp = none) (fq : H Lq = none) (ne : Lp ≠ Lq) (pl : ∃ ep, H' Lp = some (.sdict st.1 ep)) (b : H' Lq = some (.sdict [(B0, .ref Li)] ep)) (d : H Li = none) (e : Li ≠ Lp) (f : Li ≠ Lq) (hk : kv ≠ []) :
    PH H (H'.set Li (.idict kv)) Lp Lq (st.1, kv) := by
  obtain ⟨ep', pl⟩ := pl
  refine ⟨fun b o e => ?_, fp, fq, ne, ⟨ep', by rw [AHeap.set_other (Ne.symm e)]; exact pl⟩, .inr ⟨hk, ep, Li, by rw [AHeap.set_other (Ne.symm f)]; exact b, AHeap.set_same _ _ _, d, e, f⟩⟩
  rw [AHeap.set_other (fun q => by rw [q, d] at e; cases e)]; exact le b o e

theorem ascii_units (w : List Nat) (h : ∀ c ∈ w, c < 128) : utxt (w.map fun c => ([c], c)) = w ∧ (∀ u ∈ w.map fun c => ([c], c), Sg (cs "utf-8") u.1 u.2) ∧ (w.map fun c => ([c], c)).map (·.2) = w := by
  refine ⟨?_, ?_, by rw [List.map_map]; exact List.map_id w⟩
  · induction w with
    | nil => rfl
    | cons a r ih => simp only [utxt, List.map_cons, List.flatMap_cons] at *; rw [ih fun c hc => h c (.tail _ hc)]; rfl
  · intro u hu
    obtain ⟨c, hc, rfl⟩ := List.mem_map.mp hu
    exact .inl ⟨rfl, .one (h c hc)⟩

section
variable {G : Ctx} {L : Nat} {H : AHeap} {k : KV}
theorem c_guessed_ascii {v : List Nat} (ha : ∀ c ∈ v, c < 128) (z : v.length ≤ 1000000) (h : k (.str v) H) (lv : Nat.ble L 55 = true := by rfl) : CallX G L (.ref 240) [.bytes v] H k := by
  obtain ⟨a, b, c⟩ := ascii_units v ha
  have := c_guessed (G := G) (L := L) (H := H) (k := k) b (by rw [a]; exact z) (by rw [c]; exact h) lv
  rwa [a] at this
theorem pstep_len (st : PSt) (r : List Nat × List Nat) : (pstep st r).1.length ≤ st.1.length + 1 ∧ (pstep st r).2.length ≤ st.2.length + 1 := by
  unfold pstep
  cases partOf r.1 with
  | none =>
    refine ⟨?_, Nat.le_succ _⟩
    show (if _ then _ else _ : List (List Nat × PV)).length ≤ _
    split
    · exact Nat.le_succ _
    · exact sput_len _ _ _
  | some t =>
    refine ⟨Nat.le_succ _, ?_⟩
    show (if _ then _ else _ : List (Int × PV)).length ≤ _
    split
    · exact Nat.le_succ _
    · exact iput_len _ _ _
theorem pfold_snoc {done : List (List Nat × List Nat)} {q : List Nat × List Nat} : pfold (done ++ [q]) = pstep (pfold done) q := by unfold pfold; rw [List.foldl_append]; rfl
theorem fold_len : ∀ (rows : List (List Nat × List Nat)) (st : PSt), (rows.foldl pstep st).1.length ≤ st.1.length + rows.length ∧ (rows.foldl pstep st).2.length ≤ st.2.length + rows.length
  | [], _ => ⟨Nat.le_refl _, Nat.le_refl _⟩
  | r :: rows, st => by
    have a := pstep_len st r
    have b := fold_len rows (pstep st r)
    rw [List.length_cons]
    exact ⟨by have := a.1; have := b.1; rw [List.foldl_cons]; omega, by have := a.2; have := b.2; rw [List.foldl_cons]; omega⟩
theorem Le.two {H H' : AHeap} {Lp : Addr} {o : AObj} (le : H.Le H') : H.Le H' → (H.set Lp o).Le (H'.set Lp o) := fun _ x o' q => by
  by_cases hx : x = Lp
  · subst hx; rw [AHeap.set_same] at q ⊢; exact q
  · rw [AHeap.set_other hx] at q ⊢; exact le x o' q
theorem Le.put {H H' : AHeap} {Lp : Addr} {o : AObj} (le : H.Le H') (e : H' Lp = some o) : (H.set Lp o).Le H' := fun x o' q => by
  by_cases hx : x = Lp
  · subst hx; rw [AHeap.set_same] at q; rw [← q]; exact e
  · rw [AHeap.set_other hx] at q; exact le x o' q
theorem c_params {Lr : Addr} {rows : List (List Nat × List Nat)} {ps : Parts} {ch : List Nat} {us : List (List Nat × Nat)} (e : H Lr = some (.list (rows.map rowQ))) (zr : rows.length ≤ 1000) (ro : ∀ r ∈ rows, RowOk r)
    (hj : (iget (pfold rows).2 0).isSome = true → PartsOk (pfold rows).2 ps ch ∧ joinOf ps = utxt us ∧ (ch ∈ CH3 ∨ ch = []) ∧ ∀ u ∈ us, Sg (if ch = [] then cs "utf-8" else ch) u.1 u.2)
    (h : ∀ L ep, H L = none → k (.ref L) (H.set L (.sdict (if (iget (pfold rows).2 0).isSome then sput (pfold rows).1 B0 (.str (us.map (·.2))) else (pfold rows).1) ep))) (lv : Nat.ble L 53 = true := by rfl) : CallX G L (.ref 362) [.ref Lr] H k := by
  refine fn_goX f362 ?_ lv
  refine s_new fun Lp hp => ?_
  refine s_new fun Lq hq => ?_
  have nq : Lp ≠ Lq := by rintro rfl; rw [AHeap.set_same] at hq; cases hq
  have hq0 : H Lq = none := by rw [AHeap.set_other (Ne.symm nq)] at hq; exact hq
  have P0 : PH H ((H.set Lp (.sdict [] 0)).set Lq (.sdict [] 0)) Lp Lq ([], []) := ⟨(AHeap.Le.set hp).trans (AHeap.Le.set hq), hp, hq0, nq, ⟨0, by rw [AHeap.set_other nq]; exact AHeap.set_same _ _ _⟩, .inl ⟨rfl, 0, AHeap.set_same _ _ _⟩⟩
  generalize hH0 : (H.set Lp (.sdict [] 0)).set Lq (.sdict [] 0) = H0 at P0
  repeat' (first | infer_instance | fail)
  refine i_list (P0.le _ _ e) ?_
  have small : ∀ {done r : List (List Nat × List Nat)}, rows = done ++ r → (pfold done).1.length ≤ 1000000 ∧ (pfold done).2.length ≤ 1000000 := fun {done r} hr => by
    have a : (pfold done).1.length ≤ 0 + done.length ∧ (pfold done).2.length ≤ 0 + done.length := fold_len done ([], [])
    have : done.length ≤ rows.length := by rw [hr, List.length_append]; exact Nat.le_add_right _ _
    rw [Nat.zero_add] at a
    exact ⟨Nat.le_trans a.1 (by omega), Nat.le_trans a.2 (by omega)⟩
  refine for_gen (fun rest r' H' => ∃ (done r : List (List Nat × List Nat)), rows = done ++ r ∧ rest = r.map rowQ ∧ r' 1 = some (.ref Lp) ∧ r' 2 = some (.ref Lq) ∧ PH H H' Lp Lq (pfold done)) ?_ ?_ _ _ _
    ⟨[], rows, rfl, rfl, rfl, rfl, P0⟩
  · rintro r' H' ⟨done, r, hr, hrest, hm1, hm2, PHd⟩
    cases r with
    | cons => cases hrest
    | nil =>
      have sm := small hr
      rw [List.append_nil] at hr; subst hr
      obtain ⟨ep, hpl⟩ := PHd.pl
      have h' := h Lp ep PHd.fp
      repeat' (first | infer_instance | fail)
      rcases PHd.pd with ⟨a, ep', b⟩ | ⟨a, ep', Li, b, c, d, f, g⟩
      · refine i_sd b (Nat.zero_le _) ?_
        repeat' (first | infer_instance | fail)
        rw [a] at h'
        exact .to (Le.put PHd.le hpl) h'
      · refine i_sd b (Nat.le_of_ble_eq_true rfl) ?_
        repeat' (first | infer_instance | fail)
        refine p_sditem b sget_one ?_
        refine p_in_id c ?_
        cases hz : (iget (pfold rows).2 0).isSome with
        | true =>
          obtain ⟨j1, j2, j3, j4⟩ := hj hz
          rw [hz] at h
          repeat' (first | infer_instance | fail)
          refine p_sditem b sget_one ?_
          refine c_joined c j1 j2 j3 j4 ?_
          repeat' (first | infer_instance | fail)
          refine p_setsd hpl sm.1 fun ep'' => ?_
          refine And.intro (show (H'.set Lp _) Lq = _ by rw [AHeap.set_other (Ne.symm PHd.ne)]; exact b) ?_
          repeat' (first | infer_instance | fail)
          exact .to (Le.two PHd.le PHd.le) (h Lp ep'' PHd.fp)
        | false =>
          rw [hz] at h'
          repeat' (first | infer_instance | fail)
          refine And.intro b ?_
          repeat' (first | infer_instance | fail)
          exact .to (Le.put PHd.le hpl) h'
  · rintro x xs r' H' ⟨done, r, hr, hrest, hm1, hm2, PHd⟩ k' hk'
    cases r with
    | nil => cases hrest
    | cons q r =>
      rw [List.map_cons, List.cons.injEq] at hrest
      obtain ⟨rfl, rfl⟩ := hrest
      have ok := ro q (by rw [hr]; exact List.mem_append_right _ (.head _))
      have sm := small hr
      obtain ⟨ep, hpl⟩ := PHd.pl
      have nx : ∀ {st : PSt} {r'' : Slots} {H2 : AHeap}, pstep (pfold done) q = st → PH H H2 Lp Lq st → r'' 1 = some (.ref Lp) → r'' 2 = some (.ref Lq) → k' .next r'' H2 := fun {st r'' H2} es PH2 h1 h2 =>
        hk' .next _ _ ⟨PH2.le _ _ e, done ++ [q], r, by rw [hr, List.append_assoc]; rfl, rfl, h1, h2, by rw [pfold_snoc, es]; exact PH2⟩
      unfold rowQ
      repeat' (first | infer_instance | fail)
      refine c_part_of (Nat.le_trans ok.z1 (Nat.le_of_ble_eq_true rfl)) ok.z2 ?_
      cases hpo : partOf q.1 with
      | none =>
        rw [partP]
        repeat' (first | infer_instance | fail)
        refine p_notin_sd hpl ?_
        cases hs : (sget (pfold done).1 q.1).isSome with
        | true =>
          repeat' (first | infer_instance | fail)
          exact nx (show pstep (pfold done) q = pfold done by unfold pstep; rw [hpo]; simp only [hs, if_true]) PHd hm1 hm2
        | false =>
          repeat' (first | infer_instance | fail)
          refine c_guessed_ascii (ok.plain hpo) ok.z3 ?_
          repeat' (first | infer_instance | fail)
          refine p_setsd hpl sm.1 fun ep'' => ?_
          exact nx (show pstep (pfold done) q = (sput (pfold done).1 q.1 (.str q.2), (pfold done).2) by unfold pstep; rw [hpo]; simp only [hs, Bool.false_eq_true, if_false]) PHd.setP hm1 hm2
      | some t =>
        obtain ⟨b0, n, en⟩ := t
        have hb0 := ok.base _ _ _ hpo
        subst hb0
        rw [partP]
        rcases PHd.pd with ⟨a, ep', b⟩ | ⟨a, ep', Li, b, c, d, f, g⟩
        · have hst : pstep (pfold done) q = ((pfold done).1, [(n, .tup [.bool en, .bytes q.2])]) := by unfold pstep; rw [hpo, a]; rfl
          repeat' (first | infer_instance | fail)
          refine p_notin_sd b ?_
          repeat' (first | infer_instance | fail)
          refine s_new fun Li hi => ?_
          have iq : Li ≠ Lq := by rintro rfl; rw [b] at hi; cases hi
          have ip : Li ≠ Lp := by rintro rfl; rw [hpl] at hi; cases hi
          have hi0 := le_none PHd.le hi
          repeat' (first | infer_instance | fail)
          refine p_setsd (by rw [AHeap.set_other (Ne.symm iq)]; exact b) (Nat.zero_le _) fun ep'' => ?_
          rw [show sput ([] : List (List Nat × PV)) B0 (.ref Li) = [(B0, .ref Li)] from rfl]
          have q1 : ((H'.set Li (.sdict [] 0)).set Lq (.sdict [(B0, .ref Li)] ep'')) Lq = some (.sdict [(B0, .ref Li)] ep'') := AHeap.set_same _ _ _
          have q2 : ((H'.set Li (.sdict [] 0)).set Lq (.sdict [(B0, .ref Li)] ep'')) Li = some (.sdict [] 0) := by rw [AHeap.set_other iq]; exact AHeap.set_same _ _ _
          have q3 : ((H'.set Li (.sdict [] 0)).set Lq (.sdict [(B0, .ref Li)] ep'')) Lp = some (.sdict (pfold done).1 ep) := by rw [AHeap.set_other PHd.ne, AHeap.set_other (Ne.symm ip)]; exact hpl
          have q4 : H.Le ((H'.set Li (.sdict [] 0)).set Lq (.sdict [(B0, .ref Li)] ep'')) := le_set (le_set PHd.le hi0) PHd.fq
          generalize hH2 : (H'.set Li (.sdict [] 0)).set Lq (.sdict [(B0, .ref Li)] ep'') = H2 at *
          repeat' (first | infer_instance | fail)
          refine p_sditem q1 sget_one ?_
          refine p_notin_id0 q2 ?_
          repeat' (first | infer_instance | fail)
          refine p_sditem q1 sget_one ?_
          repeat' (first | infer_instance | fail)
          refine p_setid0 q2 ?_
          exact nx hst (PH.setI (st := pfold done) q4 PHd.fp PHd.fq PHd.ne ⟨ep, q3⟩ q1 hi0 ip iq (List.cons_ne_nil _ _)) hm1 hm2
        · repeat' (first | infer_instance | fail)
          refine p_notin_sd b ?_
          refine br_n (br_y (by rw [sget_one]; rfl) ?_)
          repeat' (first | infer_instance | fail)
          refine p_sditem b sget_one ?_
          refine p_notin_id c ?_
          cases hs : (iget (pfold done).2 n).isSome with
          | true =>
            repeat' (first | infer_instance | fail)
            exact nx (show pstep (pfold done) q = pfold done by unfold pstep; rw [hpo]; simp only [hs, if_true]) PHd hm1 hm2
          | false =>
            repeat' (first | infer_instance | fail)
            refine p_sditem b sget_one ?_
            repeat' (first | infer_instance | fail)
            refine p_setid c sm.2 ?_
            exact nx (show pstep (pfold done) q = ((pfold done).1, iput (pfold done).2 n (.tup [.bool en, .bytes q.2])) by unfold pstep; rw [hpo]; simp only [hs, Bool.false_eq_true, if_false]) (PH.setI (st := pfold done) PHd.le PHd.fp PHd.fq PHd.ne ⟨ep, hpl⟩ b d f g (iput_pos _ _ _)) hm1 hm2
end

-- d3

section
variable {G : Ctx} {L : Nat} {H : AHeap} {k : KV}
theorem dv_init : VL G.B G.B [.int 0, .int (-1)] [.int 0 284, .int (-1) 286] := VL_cons.mpr ⟨_, _, rfl, V_int.mpr ⟨_, rfl⟩, VL_cons.mpr ⟨_, _, rfl, V_int.mpr ⟨_, rfl⟩, VL_nil.mpr rfl⟩⟩
theorem c_init {c dx : Addr} {d : List Nat} (z : d.length ≤ 1000000) (h1 : H c = some (.inst curC dx)) (h2 : H dx = some (.attrs [])) (h : k .none (curH H dx d 0)) (lv : Nat.ble L 59 = true := by rfl) : CallsX G L 88 [.ref c, .bytes d] H k := by
  refine (fn_goXC (t := 81) (ds := [.int 0, .int (-1)]) (dv := [.int 0 284, .int (-1) 286]) f88 (fun fd hf => by cases hf; rfl) rfl dv_init
    (fun fd hf => by cases hf; refine len2 ?_; exact fun a b => ⟨_, rfl, rfl⟩) ?_ lv).2
  have ne : c ≠ dx := by rintro rfl; rw [h1] at h2; cases h2
  have g1 : ∀ o, (H.set dx o) c = some (.inst curC dx) := fun o => by rw [AHeap.set_other ne]; exact h1
  refine p_setattr (kvs' := [(cData, .bytes d)]) h1 h2 (isCur (by kernel_rfl)) (Nat.zero_le _) rfl ?_
  refine p_setattr (kvs' := [(cData, .bytes d), (cAt, .int 0)]) (g1 _) (AHeap.set_same _ _ _) (isCur (by kernel_rfl)) (Nat.le_of_ble_eq_true rfl) (by kernel_rfl) ?_
  rw [set_set]
  repeat' (first | infer_instance | fail)
  refine x_lenb (lenz z) ?_
  refine p_setattr (kvs' := curKv d 0 d.length) (g1 _) (AHeap.set_same _ _ _) (isCur (by kernel_rfl)) (Nat.le_of_ble_eq_true rfl) (by kernel_rfl) ?_
  rw [set_set]
  exact .here h

theorem c_cursor {d : List Nat} (z : d.length ≤ 1000000) (h : ∀ c dx, H c = none → H dx = none → c ≠ dx → k (.ref c) (curH ((H.set dx (.attrs [])).set c (.inst curC dx)) dx d 0)) (lv : Nat.ble L 58 = true := by rfl) : CallX G L (.ref 155) [.bytes d] H k := by
  refine ⟨⟨fun hh hk => keeps_K (K := K0 G.w.params) (by kernel_rfl) hh (G.ok.G.X.keeps hk), fun A s E Q vs hA W hv P => wpAny_call ?_⟩⟩
  have XK : Frag.In (K0 _) s.heap := G.ok.G.X.keeps W.base
  obtain ⟨hh, g, dr, t, os⟩ := s
  dsimp only at XK W hv
  have e1 : hh.get? hh.objs.size = none := get?_new _
  have k1 : ∀ b o, hh.get? b = some o → (hh.push emptyDict).get? b = some o := fun b o e => Heap.get?_push_of_some _ e
  have e2 : hh.get? (hh.objs.size + 1) = none := by
    cases q : hh.get? (hh.objs.size + 1) with
    | none => rfl
    | some o => exact absurd (Heap.lt_size q) (Nat.not_lt.mpr (Nat.le_succ _))
  have k2 : ∀ b o, hh.get? b = some o → ((hh.push emptyDict).push (instObj curC hh.objs.size)).get? b = some o := fun b o e => Heap.get?_push_of_some _ (k1 _ _ e)
  have ne : hh.objs.size + 1 ≠ hh.objs.size := Nat.succ_ne_self _
  have W2 : WF G.prog G.w G.B H ((hh.push emptyDict).push (instObj curC hh.objs.size)) := W.keeps k2
  have n1 := W.fresh e1
  have n2 := W.fresh e2
  have gd : ((hh.push emptyDict).push (instObj curC hh.objs.size)).get? hh.objs.size = some emptyDict := Heap.get?_push_of_some _ (push_new _)
  have gi : ((hh.push emptyDict).push (instObj curC hh.objs.size)).get? (hh.objs.size + 1) = some (instObj curC hh.objs.size) := by
    have := push_new (h := hh.push emptyDict) (instObj curC hh.objs.size)
    rwa [Heap.size_push] at this
  have W3 : WF G.prog G.w G.B (H.set hh.objs.size (.attrs [])) ((hh.push emptyDict).push (instObj curC hh.objs.size)) := W2.alloc n1 (W.freshB e1) ⟨[], 0, gd, rfl⟩
  have W4 : WF G.prog G.w G.B ((H.set hh.objs.size (.attrs [])).set (hh.objs.size + 1) (.inst curC hh.objs.size)) ((hh.push emptyDict).push (instObj curC hh.objs.size)) := W3.alloc (ao := .inst curC hh.objs.size) (by rw [AHeap.set_other ne]; exact n2) (W.freshB e2) gi
  have S4 : Step NoX H hh ((H.set hh.objs.size (.attrs [])).set (hh.objs.size + 1) (.inst curC hh.objs.size)) ((hh.push emptyDict).push (instObj curC hh.objs.size)) := ((Step.keeps k2).alloc e1).alloc e2
  have hw : Code.weight (.builtin "type.__call__" ⟨.ref curC :: vs, []⟩) ≤ 1 := Nat.le_of_eq (by kernel_rfl)
  have hu : Code.cUnits (.builtin "type.__call__" ⟨.ref curC :: vs, []⟩) ≤ 1 := Nat.le_of_eq (by kernel_rfl)
  have hA' : AOk (L + 1) (A.under (.builtin "type.__call__" ⟨.ref curC :: vs, []⟩)) := ⟨hA.handled, by have := hA.depth; show A.depth + Code.weight _ ≤ _; omega, by have := hA.units; show A.units + Code.cUnits _ ≤ _; omega⟩
  refine make_core (makes_of (C := curC) (M := G.M) XK (by kernel_rfl)) (looks_findIn XK (r := some (.ref 88)) (by kernel_rfl)) (fun self => bind_fn (f := 88) XK self (by kernel_rfl)) (.inl rfl) ?_
  refine c_init (k := fun pv H' => pv = .none ∧ H' = curH ((H.set hh.objs.size (.attrs [])).set (hh.objs.size + 1) (.inst curC hh.objs.size)) hh.objs.size d 0) z (AHeap.set_same _ _ _) (by rw [AHeap.set_other (Ne.symm ne)]; exact AHeap.set_same _ _ _) ⟨rfl, rfl⟩ (Nat.ble_eq_true_of_le (Nat.succ_le_succ (Nat.le_of_ble_eq_true lv)))
    _ ⟨_, g, dr, t, os⟩ _ (.ref (hh.objs.size + 1) :: vs) hA' W4 (VL_cons.mpr ⟨_, _, rfl, V_ref.mpr rfl, hv.mono fun a o e _ => k2 _ _ e⟩) ?_
  intro pv v H' s' sm st W' hv' hk'
  obtain ⟨rfl, rfl⟩ := hk'
  refine ⟨V_none.mp hv', ?_⟩
  exact P (.ref (hh.objs.size + 1)) (.ref (hh.objs.size + 1)) _ s' sm (S4.trans st) W' (V_ref.mpr rfl) (h _ _ n2 n1 ne)

theorem c_read_value {d : List Nat} {rows : List (List Nat × List Nat)} {ps : Parts} {ch : List Nat} {us : List (List Nat × Nat)} (z : d.length ≤ 1000000) (zb : ∀ i (h : i < d.length), d[i] < 256)
    (w0 : Run whiteB d 0 0) (w0' : pk d 0 ≠ 40) (tk : Run tokB d 0 1) (w1 : Run whiteB d 1 1) (w1' : pk d 1 ≠ 40) (R : RowsAt d 1 rows) (zr : rows.length ≤ 1000) (ro : ∀ r ∈ rows, RowOk (r.1.map lowN, r.2))
    (hj : (iget (pfold (rows.map fun r => (r.1.map lowN, r.2))).2 0).isSome = true → PartsOk (pfold (rows.map fun r => (r.1.map lowN, r.2))).2 ps ch ∧ joinOf ps = utxt us ∧ (ch ∈ CH3 ∨ ch = []) ∧ ∀ u ∈ us, Sg (if ch = [] then cs "utf-8" else ch) u.1 u.2)
    (h : ∀ L ep, H L = none → k (.tup [.str ((cut d 0 1).map lowN), .ref L]) (H.set L (.sdict (if (iget (pfold (rows.map fun r => (r.1.map lowN, r.2))).2 0).isSome then sput (pfold (rows.map fun r => (r.1.map lowN, r.2))).1 B0 (.str (us.map (·.2))) else (pfold (rows.map fun r => (r.1.map lowN, r.2))).1) ep))) (lv : Nat.ble L 52 = true := by rfl) :
    CallX G L (.ref 369) [.bytes d] H k := by
  refine fn_goX f369 ?_ lv
  refine c_cursor z fun c dx hc hd ne => ?_
  have le0 : H.Le (curH ((H.set dx (.attrs [])).set c (.inst curC dx)) dx d 0) := le_set (le_set (le_set (.refl H) hd) hc) hd
  have C0 : CurAt (curH ((H.set dx (.attrs [])).set c (.inst curC dx)) dx d 0) c dx d (0 : Nat) := ⟨by rw [curH_other ne]; exact AHeap.set_same _ _ _, AHeap.set_same _ _ _⟩
  generalize hG : curH ((H.set dx (.attrs [])).set c (.inst curC dx)) dx d 0 = H1 at le0 C0
  repeat' (first | infer_instance | fail)
  refine c_skip z C0 w0 w0' ?_
  rw [curH_id C0]
  refine c_take_token z C0 tk (by decide) ?_
  have zb' : ∀ x ∈ d, x < 256 := fun x hx => by
    obtain ⟨i, hi, rfl⟩ := List.getElem_of_mem hx
    exact zb i hi
  refine c_small (Nat.le_trans cut_length z) (fun x hx => zb' x (mem_cut hx)) ?_
  have le1 : H.Le (curH H1 dx d (1 : Nat)) := le_set le0 hd
  refine c_take_pairs z zb (C0.cur (j := (1 : Nat))) w1 w1' R zr fun M hL => ?_
  have nL : M ≠ dx := by rintro rfl; rw [(C0.cur (j := (1 : Nat))).2] at hL; cases hL
  have hL0 := le_none le1 hL
  have le2 : H.Le (curH ((curH H1 dx d (1 : Nat)).set M (.list (rows.map rowP))) dx d d.length) := le_set (le_set le1 hL0) hd
  refine c_params (rows := rows.map fun r => (r.1.map lowN, r.2)) (ps := ps) (ch := ch) (us := us) ?_ (by rw [List.length_map]; exact zr) (fun r hr => ?_) hj fun M' ep hL' => ?_
  · rw [curH_other nL, AHeap.set_same, List.map_map]; rfl
  · obtain ⟨q, hq, rfl⟩ := List.mem_map.mp hr
    exact ro q hq
  exact .to (le_sets le2) (h M' ep (le_none le2 hL'))
end

-- E1

/-! rows as they stand in the text -/
structure Rw where
  nm : List Nat
  wt : List Nat
  v : List Nat
noncomputable def Rw.txt (r : Rw) : List Nat := r.nm ++ 61 :: r.wt
structure Rw.ok (r : Rw) : Prop where
  ne : r.nm ≠ []
  tok : ∀ c ∈ r.nm, tokB (c : Int) = true
  wt : (r.wt = 34 :: (r.v ++ [34]) ∧ ∀ c ∈ r.v, c ≠ 34 ∧ plainIn c) ∨ (r.wt = r.v ∧ r.v ≠ [] ∧ ∀ c ∈ r.v, worthB (c : Int) = true)
noncomputable def rtail (rs : List Rw) : List Nat := rs.flatMap fun r => 59 :: 32 :: r.txt

theorem pk_app {a b : List Nat} {i : Nat} : pk (a ++ b) (a.length + i) = pk b i := by
  unfold pk; rw [List.getElem?_append_right (by omega), Nat.add_sub_cancel_left]
theorem pk_left {a b : List Nat} {i : Nat} (h : i < a.length) : pk (a ++ b) i = (a[i] : Int) := by
  unfold pk; rw [List.getElem?_append_left h, List.getElem?_eq_getElem h]
theorem pk_at {a b : List Nat} {i j : Nat} (e : j = a.length + i) : pk (a ++ b) j = pk b i := e ▸ pk_app
theorem tok_facts {c : Int} (h : tokB c = true) : whiteB c = false ∧ c ≠ 40 ∧ c ≠ 59 ∧ c ≠ 34 ∧ c ≠ 61 := by
  unfold tokB at h
  have h := of_decide_eq_true h
  refine ⟨?_, ?_, ?_, ?_, ?_⟩
  · unfold whiteB; simp; omega
  · rintro rfl; exact h.2.2 (by decide)
  · rintro rfl; exact h.2.2 (by decide)
  · rintro rfl; exact h.2.2 (by decide)
  · rintro rfl; exact h.2.2 (by decide)
theorem worth_facts {c : Int} (h : worthB c = true) : whiteB c = false ∧ c ≠ 40 ∧ c ≠ 34 := by
  unfold worthB at h
  rcases Bool.or_eq_true_iff.mp h with h | h
  · have := of_decide_eq_true h
    refine ⟨?_, by omega, by omega⟩
    unfold whiteB; simp; omega
  · have := tok_facts h; exact ⟨this.1, this.2.1, this.2.2.2.1⟩

theorem row_at {p T : List Nat} {r : Rw} (ok : r.ok) (hT : pk T 0 = 59 ∨ pk T 0 = -1) : RowAt (p ++ (59 :: 32 :: (r.txt ++ T))) p.length r.nm r.v (p.length + 2 + r.txt.length) := by
  obtain ⟨nm, wt, v⟩ := r
  obtain ⟨ne, tok, hw⟩ := ok
  dsimp only at ne tok hw
  have nl : 0 < nm.length := List.length_pos_iff.mpr ne
  have wl : 0 < wt.length := by
    rcases hw with ⟨e, _⟩ | ⟨e, n, _⟩
    · rw [e]; simp
    · rw [e]; exact List.length_pos_iff.mpr n
  have tl : (Rw.txt ⟨nm, wt, v⟩).length = nm.length + 1 + wt.length := by simp [Rw.txt]; omega
  rw [tl]
  have e1 : p ++ (59 :: 32 :: (Rw.txt ⟨nm, wt, v⟩ ++ T)) = (p ++ [59, 32]) ++ (nm ++ (61 :: (wt ++ T))) := by simp [Rw.txt]
  have e2 : p ++ (59 :: 32 :: (Rw.txt ⟨nm, wt, v⟩ ++ T)) = (p ++ [59, 32] ++ nm) ++ (61 :: (wt ++ T)) := by simp [Rw.txt]
  have e3 : p ++ (59 :: 32 :: (Rw.txt ⟨nm, wt, v⟩ ++ T)) = (p ++ [59, 32] ++ nm ++ [61]) ++ (wt ++ T) := by simp [Rw.txt]
  have e4 : p ++ (59 :: 32 :: (Rw.txt ⟨nm, wt, v⟩ ++ T)) = (p ++ [59, 32] ++ nm ++ [61] ++ wt) ++ T := by simp [Rw.txt]
  generalize hD : p ++ (59 :: 32 :: (Rw.txt ⟨nm, wt, v⟩ ++ T)) = D at *
  have dl : D.length = p.length + 2 + nm.length + 1 + wt.length + T.length := by rw [e4]; simp; omega
  have a0 : pk D p.length = 59 := by rw [← hD]; exact (pk_at (i := 0) rfl).trans rfl
  have a1 : pk D (p.length + 1) = 32 := by rw [← hD]; exact (pk_at (i := 1) rfl).trans rfl
  have aN : ∀ i (h : i < nm.length), pk D (p.length + 2 + i) = (nm[i] : Int) := fun i h => by
    rw [e1]; exact (pk_at (i := i) (by simp)).trans (pk_left h)
  have aE : pk D (p.length + 2 + nm.length) = 61 := by rw [e2]; exact (pk_at (i := 0) (by simp; omega)).trans rfl
  have aW : ∀ i (h : i < wt.length), pk D (p.length + 2 + nm.length + 1 + i) = (wt[i] : Int) := fun i h => by
    rw [e3]; exact (pk_at (i := i) (by simp; omega)).trans (pk_left h)
  have aT : pk D (p.length + 2 + nm.length + 1 + wt.length) = pk T 0 := by rw [e4]; exact pk_at (by simp; omega)
  have tN : ∀ i (h : i < nm.length), tokB (pk D (p.length + 2 + i)) = true := fun i h => by rw [aN i h]; exact tok _ (List.getElem_mem h)
  have f0 := tok_facts (tN 0 nl)
  rw [Nat.add_zero] at f0
  have w0 : whiteB (pk D (p.length + 2 + nm.length + 1)) = false ∧ pk D (p.length + 2 + nm.length + 1) ≠ 40 := by
    have := aW 0 wl
    rw [Nat.add_zero] at this
    rw [this]
    rcases hw with ⟨rfl, _⟩ | ⟨rfl, n, h⟩
    · exact ⟨show whiteB ((34 : Nat) : Int) = false by decide, show ((34 : Nat) : Int) ≠ 40 by decide⟩
    · have := worth_facts (h _ (List.getElem_mem wl)); exact ⟨this.1, this.2.1⟩
  have wT : whiteB (pk D (p.length + 2 + nm.length + 1 + wt.length)) = false ∧ pk D (p.length + 2 + nm.length + 1 + wt.length) ≠ 40 ∧ worthB (pk D (p.length + 2 + nm.length + 1 + wt.length)) = false := by
    rw [aT]; rcases hT with h | h <;> rw [h] <;> decide
  have eE : p.length + 2 + (nm.length + 1 + wt.length) = p.length + 2 + nm.length + 1 + wt.length := by omega
  rw [eE]
  refine ⟨a0, p.length + 2, p.length + 2 + nm.length, p.length + 2 + nm.length + 1 + wt.length, ⟨by omega, by omega, fun i h1 h2 => ?_, f0.1⟩, f0.2.1, f0.2.2.1, by omega, ⟨by omega, by omega, fun i h1 h2 => ?_, ?_⟩, ?_, Run.nil (by omega) ?_, aE, Run.nil (by omega) w0.1, w0.2, ?_, Run.nil (by omega) wT.1, wT.2.1⟩
  · obtain rfl : i = p.length + 1 := by omega
    rw [a1]; decide
  · obtain ⟨j, rfl⟩ : ∃ j, i = p.length + 2 + j := ⟨i - (p.length + 2), by omega⟩
    exact tN j (by omega)
  · rw [aE]; decide
  · exact (cut_mid (p := p ++ [59, 32]) (q := nm) (r := 61 :: (wt ++ T)) (by rw [e1, List.append_assoc (p ++ [59, 32])]) (by simp) rfl).symm
  · rw [aE]; decide
  · have aW0 := aW 0 wl
    rw [Nat.add_zero] at aW0
    rcases hw with ⟨rfl, h⟩ | ⟨rfl, n, h⟩
    · refine .inl ⟨aW0, p.length + 2 + nm.length + 1 + 1 + v.length, by simp; omega, ⟨by omega, by simp at dl; omega, ?_, fun i h1 h2 => ?_⟩, ?_⟩
      · have := aW (v.length + 1) (by simp)
        rw [show p.length + 2 + nm.length + 1 + 1 + v.length = p.length + 2 + nm.length + 1 + (v.length + 1) by omega, this]
        simp
      · obtain ⟨j, rfl⟩ : ∃ j, i = p.length + 2 + nm.length + 1 + (j + 1) := ⟨i - (p.length + 2 + nm.length + 1) - 1, by omega⟩
        have hj : j < v.length := by omega
        have := aW (j + 1) (by simp; omega)
        have hl : p.length + 2 + nm.length + 1 + (j + 1) < D.length := by simp at dl; omega
        refine ⟨hl, ?_⟩
        rw [pk_lt hl] at this
        have e : D[p.length + 2 + nm.length + 1 + (j + 1)] = v[j] := by
          have e' : ((34 :: (v ++ [34]))[j + 1]'(by simp; omega)) = v[j] := by simp [List.getElem_append_left, hj]
          rw [e'] at this; omega
        rw [e]; exact h _ (List.getElem_mem hj)
      · exact (cut_mid (p := p ++ [59, 32] ++ nm ++ [61] ++ [34]) (q := v) (r := [34] ++ T) (by rw [e3]; simp) (by simp; omega) rfl).symm
    · refine .inr ⟨?_, by omega, ⟨by omega, by omega, fun i h1 h2 => ?_, wT.2.2⟩, ?_⟩
      · rw [aW0]; exact (worth_facts (h _ (List.getElem_mem wl))).2.2
      · obtain ⟨j, rfl⟩ : ∃ j, i = p.length + 2 + nm.length + 1 + j := ⟨i - (p.length + 2 + nm.length + 1), by omega⟩
        rw [aW j (by omega)]; exact h _ (List.getElem_mem (by omega))
      · exact (cut_mid (p := p ++ [59, 32] ++ nm ++ [61]) (q := wt) (r := T) (by rw [e4]) (by simp; omega) rfl).symm

theorem rows_at : ∀ {rs : List Rw} {p : List Nat}, (∀ r ∈ rs, r.ok) → RowsAt (p ++ rtail rs) p.length (rs.map fun r => (r.nm, r.v))
  | [], p, _ => by
    have : RowsAt (p ++ rtail []) (p ++ rtail []).length [] := .nil
    simpa [rtail] using this
  | r :: rs, p, h => by
    have ih := rows_at (rs := rs) (p := p ++ (59 :: 32 :: r.txt)) fun x hx => h x (.tail _ hx)
    have e : p ++ rtail (r :: rs) = p ++ (59 :: 32 :: r.txt) ++ rtail rs := by simp [rtail]
    have e' : p ++ rtail (r :: rs) = p ++ (59 :: 32 :: (r.txt ++ rtail rs)) := by simp [rtail]
    rw [← e] at ih
    refine .cons (e := p.length + 2 + r.txt.length) ?_ ?_
    · rw [e']
      refine row_at (h r (.head _)) ?_
      cases rs with
      | nil => exact .inr rfl
      | cons s t => exact .inl rfl
    · have : (p ++ (59 :: 32 :: r.txt)).length = p.length + 2 + r.txt.length := by simp; omega
      rw [this] at ih; exact ih

theorem join_tail : ∀ {rs : List Rw}, rs ≠ [] → 59 :: 32 :: joinL [59, 32] (rs.map Rw.txt) = rtail rs
  | [], h => absurd rfl h
  | [r], _ => by simp [joinL, rtail]
  | r :: s :: t, _ => by
    have := join_tail (rs := s :: t) (by simp)
    simp only [List.map_cons] at this
    simp only [List.map_cons, joinL]
    have e : rtail (r :: s :: t) = 59 :: 32 :: r.txt ++ rtail (s :: t) := by simp [rtail]
    rw [e, ← this]; simp

/-! what params_of makes of rows -/
theorem iget_iput {kv : List (Int × PV)} {x y : Int} {v : PV} : iget (iput kv x v) y = if x = y then some v else iget kv y := by
  unfold iget iput
  by_cases h : x = y
  · subst h
    rw [if_pos rfl]
    induction kv with
    | nil => simp
    | cons p r ih =>
      by_cases h : p.1 = x
      · simp [h]
      · simp only [List.any_cons, List.map_cons, decide_eq_false h, Bool.false_or, if_neg h] at ih ⊢
        split
        · rename_i q; rw [if_pos q] at ih; rw [List.find?_cons, decide_eq_false h]; exact ih
        · rename_i q; rw [if_neg q] at ih; rw [List.cons_append, List.find?_cons, decide_eq_false h]; exact ih
  · rw [if_neg h]
    split
    · rw [List.find?_map]
      have : ((fun p : Int × PV => decide (p.1 = y)) ∘ fun p => if p.1 = x then (p.1, v) else p) = fun p => decide (p.1 = y) := by
        funext p; simp only [Function.comp]; split <;> rfl
      rw [this]
      cases hf : kv.find? fun p => decide (p.1 = y) with
      | none => rfl
      | some p =>
        have := List.find?_some hf
        have e : p.1 = y := of_decide_eq_true this
        simp only [Option.map_some]
        rw [if_neg (by rw [e]; exact Ne.symm h)]
    · rw [List.find?_append]
      have : [(x, v)].find? (fun p => decide (p.1 = y)) = none := by simp [h]
      rw [this, Option.or_none]

noncomputable def sel (n : Int) (r : List Nat × List Nat) : Option PV := match partOf r.1 with
  | some (_, n', e) => if n' = n then some (.tup [.bool e, .bytes r.2]) else none
  | none => none
theorem pstep_iget {st : PSt} {r : List Nat × List Nat} {n : Int} : iget (pstep st r).2 n = (iget st.2 n).or (sel n r) := by
  unfold pstep sel
  cases h : partOf r.1 with
  | none => simp
  | some t =>
    obtain ⟨b, n', e⟩ := t
    dsimp only
    by_cases q : (iget st.2 n').isSome = true
    · rw [if_pos q]
      by_cases z : n' = n
      · subst z; obtain ⟨x, hx⟩ := Option.isSome_iff_exists.mp q; rw [hx]; rfl
      · rw [if_neg z, Option.or_none]
    · rw [if_neg q, iget_iput]
      by_cases z : n' = n
      · subst z
        have : iget st.2 n' = none := by simpa using q
        rw [if_pos rfl, if_pos rfl, this]; rfl
      · rw [if_neg z, if_neg z, Option.or_none]
theorem fold_iget {n : Int} : ∀ {rows : List (List Nat × List Nat)} {st : PSt}, iget (rows.foldl pstep st).2 n = (iget st.2 n).or (rows.findSome? (sel n))
  | [], st => by simp
  | r :: rs, st => by
    rw [List.foldl_cons, fold_iget, pstep_iget, List.findSome?_cons, Option.or_assoc]
    cases sel n r <;> simp
theorem pfold_iget {rows : List (List Nat × List Nat)} {n : Int} : iget (pfold rows).2 n = rows.findSome? (sel n) := by
  unfold pfold; rw [fold_iget]; simp [iget]
theorem fold_plain : ∀ {rows : List (List Nat × List Nat)} {st : PSt}, (∀ r ∈ rows, (partOf r.1).isSome = true) → (rows.foldl pstep st).1 = st.1
  | [], st, _ => rfl
  | r :: rs, st, h => by
    rw [List.foldl_cons, fold_plain fun x hx => h x (.tail _ hx)]
    unfold pstep
    obtain ⟨t, ht⟩ := Option.isSome_iff_exists.mp (h r (.head _))
    rw [ht]
theorem step_plain {st : PSt} {r : List Nat × List Nat} (h : partOf r.1 = none) (h2 : sget st.1 r.1 = none) : (pstep st r).1 = sput st.1 r.1 (.str r.2) := by
  unfold pstep
  rw [h]; simp [h2]
theorem findSome_mid {α β : Type} {f : α → Option β} {A B : List α} {x : α} (h : f x = none) : (A ++ x :: B).findSome? f = (A ++ B).findSome? f := by
  simp [List.findSome?_append, List.findSome?_cons, h]
theorem findSome_uniq {α β : Type} {f : α → Option β} {v : β} : ∀ {l : List α}, (∃ x ∈ l, f x = some v) → (∀ x ∈ l, ∀ u, f x = some u → u = v) → l.findSome? f = some v
  | [], h, _ => by obtain ⟨x, hx, _⟩ := h; cases hx
  | y :: l, ⟨x, hx, e⟩, h2 => by
    rw [List.findSome?_cons]
    cases hy : f y with
    | some u => rw [h2 y (.head _) u hy]
    | none =>
      rcases List.mem_cons.mp hx with rfl | hx
      · rw [hy] at e; cases e
      · exact findSome_uniq ⟨x, hx, e⟩ fun z hz => h2 z (.tail _ hz)

-- d4

section
variable {G : Ctx} {L : Nat} {H : AHeap} {k : KV}
/-- the pot of draws -/
structure Pot (H : AHeap) (p q : Addr) (n : Nat) : Prop where
  hp : ∃ (s c : Int), H p = some (.list [.ref q, .int s, .int c]) ∧ 0 ≤ s ∧ s < 2147483647 ∧ 0 ≤ c ∧ c ≤ n
  hq : ∃ cells : List Int, H q = some (.list (cells.map .int)) ∧ (∀ x ∈ cells, 0 ≤ x) ∧ cells.length ≤ 40
  ne : p ≠ q
/-- only the pot has changed -/
noncomputable def PotCh (H H' : AHeap) (p q : Addr) : Prop := ∀ b, b ≠ p → b ≠ q → H' b = H b
theorem PotCh.refl (H : AHeap) (p q : Addr) : PotCh H H p q := fun _ _ _ => rfl
theorem PotCh.trans {H H₁ H₂ : AHeap} {p q : Addr} (a : PotCh H H₁ p q) (b : PotCh H₁ H₂ p q) : PotCh H H₂ p q := fun x h1 h2 => (b x h1 h2).trans (a x h1 h2)

theorem li3 {a : Addr} {x y z v : PV} {n : Int} {Q : KV} (e : H a = some (.list [x, y, z])) (c : decide (0 ≤ n ∧ n < 3) = true) (g : ([x, y, z] : List PV).getD n.toNat .none = v) (h : Q v H) : itemW (.ref a) (.int n) H Q :=
  p_litem e ⟨Nat.le_of_ble_eq_true rfl, of_decide_eq_true c⟩ (by rw [g]; exact h)
theorem ls3 {a : Addr} {x y z v : PV} {n : Int} {Q : AHeap → Prop} {l : List PV} (e : H a = some (.list [x, y, z])) (c : decide (0 ≤ n ∧ n < 3) = true) (g : ([x, y, z] : List PV).set n.toNat v = l) (h : Q (H.set a (.list l))) : setItemW (.ref a) (.int n) v H Q :=
  p_setl e ⟨Nat.le_of_ble_eq_true rfl, of_decide_eq_true c⟩ (by rw [g]; exact h)
theorem c_draw {p q : Addr} {n : Nat} {lim : Int} (hn : n ≤ 1000000) (hlim : 0 < lim ∧ lim ≤ 1000) (P0 : Pot H p q n) (h : ∀ (r : Int) H', 0 ≤ r → r < lim → Pot H' p q (n + 1) → PotCh H H' p q → k (.int r) H') (lv : Nat.ble L 59 = true := by rfl) : CallX G L (.ref 381) [.ref p, .int lim] H k := by
  obtain ⟨⟨s, c, hp, s0, s1, c0, c1⟩, ⟨cells, hq, cp, cl⟩, ne⟩ := P0
  refine fn_goX f381 ?_ lv
  refine li3 hp rfl rfl ?_
  refine ls3 (l := [.ref q, .int s, .int (c + 1)]) hp rfl rfl ?_
  have hp1 : (H.set p (.list [.ref q, .int s, .int (c + 1)])) p = some (.list [.ref q, .int s, .int (c + 1)]) := AHeap.set_same _ _ _
  have hq1 : (H.set p (.list [.ref q, .int s, .int (c + 1)])) q = some (.list (cells.map .int)) := by rw [AHeap.set_other (Ne.symm ne)]; exact hq
  have ch1 : PotCh H (H.set p (.list [.ref q, .int s, .int (c + 1)])) p q := fun b h1 h2 => AHeap.set_other h1
  generalize hG : H.set p (.list [.ref q, .int s, .int (c + 1)]) = H1 at *
  have ml := List.length_map (as := cells) PV.int
  have zl : (cells.map PV.int).length ≤ 16777216 := by omega
  have tail : ∀ r : Slots, r 0 = some (.ref p) → r 1 = some (.int lim) → r 2 = some (.int c) → XSs G (59 + 1) (match b381 with | .cons _ (.cons _ (.cons _ t)) => t | _ => .nil) r H1 (retR k) := fun r h0 h1 h2 => by
    repeat' (first | infer_instance | fail)
    refine li3 hp1 rfl rfl ?_
    refine p_mul ⟨by omega, by omega⟩ ?_
    repeat' (first | infer_instance | fail)
    refine p_mul ⟨by omega, by omega⟩ ?_
    refine p_mod (by decide) ?_
    have m0' : 0 ≤ (s * 16807 + c * c + 7) % 2147483647 := Int.emod_nonneg _ (by decide)
    have m1' : (s * 16807 + c * c + 7) % 2147483647 < 2147483647 := Int.emod_lt_of_pos _ (by decide)
    generalize (s * 16807 + c * c + 7) % 2147483647 = s' at m0' m1' ⊢
    repeat' (first | infer_instance | fail)
    refine ls3 (l := [.ref q, .int s', .int (c + 1)]) hp1 rfl rfl ?_
    have hp2 : (H1.set p (.list [.ref q, .int s', .int (c + 1)])) p = some (.list [.ref q, .int s', .int (c + 1)]) := AHeap.set_same _ _ _
    repeat' (first | infer_instance | fail)
    refine li3 hp2 rfl rfl ?_
    refine p_div ⟨by decide, by decide⟩ ?_
    repeat' (first | infer_instance | fail)
    refine p_mod hlim.1 ?_
    refine .here (h _ _ (Int.emod_nonneg _ (Int.ne_of_gt hlim.1)) (Int.emod_lt_of_pos _ hlim.1) ?_ ?_)
    · exact ⟨⟨s', c + 1, hp2, m0', m1', by omega, by omega⟩, ⟨cells, by rw [AHeap.set_other (Ne.symm ne)]; exact hq1, cp, cl⟩, ne⟩
    · exact ch1.trans fun b h1 h2 => AHeap.set_other h1
  refine li3 hp1 rfl rfl ?_
  refine p_tl hq1 zl ?_
  refine br_nz (fun hz => ?_) (fun hz => ?_)
  · have cz : 0 < (cells.map PV.int).length := Nat.pos_of_ne_zero hz
    refine li3 hp1 rfl rfl ?_
    refine x_lenl hq1 zl ?_
    refine p_mod (Int.ofNat_lt.mpr cz) ?_
    have m0 : 0 ≤ c % (cells.map PV.int).length := Int.emod_nonneg _ (by omega)
    have m1 : c % (cells.map PV.int).length < (cells.map PV.int).length := Int.emod_lt_of_pos _ (Int.ofNat_lt.mpr cz)
    generalize c % ((cells.map PV.int).length : Int) = sp at m0 m1 ⊢
    obtain ⟨j, rfl⟩ := Int.eq_ofNat_of_zero_le m0
    have m2 : j < cells.length := by omega
    have gj : (cells.map PV.int).getD (j : Int).toNat .none = .int cells[j] := by rw [Int.toNat_natCast, List.getD_eq_getElem?_getD, List.getElem?_map, List.getElem?_eq_getElem m2]; rfl
    refine li3 hp1 rfl rfl ?_
    refine p_litem hq1 ⟨zl, m0, m1⟩ ?_
    rw [gj]
    repeat' (first | infer_instance | fail)
    · rename_i hpos
      refine p_div ⟨hlim.1, by omega⟩ ?_
      repeat' (first | infer_instance | fail)
      refine li3 hp1 rfl rfl ?_
      refine p_setl hq1 ⟨zl, m0, m1⟩ ?_
      repeat' (first | infer_instance | fail)
      refine p_mod hlim.1 ?_
      refine .here (h _ _ (Int.emod_nonneg _ (Int.ne_of_gt hlim.1)) (Int.emod_lt_of_pos _ hlim.1) ?_ ?_)
      · refine ⟨⟨s, c + 1, by rw [AHeap.set_other ne]; exact hp1, s0, s1, by omega, by omega⟩, ⟨cells.set j (cells[j] / lim), by rw [AHeap.set_same, Int.toNat_natCast, List.map_set], ?_, by rw [List.length_set]; exact cl⟩, ne⟩
        intro x hx
        rcases List.mem_or_eq_of_mem_set hx with hx | rfl
        · exact cp x hx
        · exact Int.ediv_nonneg (Int.le_of_lt hpos) (Int.le_of_lt hlim.1)
      · exact ch1.trans fun b h1 h2 => AHeap.set_other h2
    · exact tail ((((argS [.ref p, .int lim] 0).put 2 (.int c)).put 3 (.int j)).put 4 (.int cells[j])) rfl rfl rfl
  · exact tail ((argS [.ref p, .int lim] 0).put 2 (.int c)) rfl rfl rfl
end

-- d5

noncomputable def PotLe (H H' : AHeap) (p q : Addr) : Prop := ∀ b o, b ≠ p → b ≠ q → H b = some o → H' b = some o
theorem PotLe.refl (H : AHeap) (p q : Addr) : PotLe H H p q := fun _ _ _ _ e => e
theorem PotLe.trans {H H₁ H₂ : AHeap} {p q : Addr} (a : PotLe H H₁ p q) (b : PotLe H₁ H₂ p q) : PotLe H H₂ p q := fun x o h1 h2 e => b x o h1 h2 (a x o h1 h2 e)
theorem PotCh.le {H H' : AHeap} {p q : Addr} (a : PotCh H H' p q) : PotLe H H' p q := fun b o h1 h2 e => by rw [a b h1 h2]; exact e
theorem PotLe.of {H H' : AHeap} {p q : Addr} (a : H.Le H') : PotLe H H' p q := fun b o _ _ e => a b o e
theorem Pot.le {H H' : AHeap} {p q : Addr} {n : Nat} (P : Pot H p q n) (a : H.Le H') : Pot H' p q n := by
  obtain ⟨⟨s, c, e, r⟩, ⟨cells, f, t⟩, ne⟩ := P
  exact ⟨⟨s, c, a _ _ e, r⟩, ⟨cells, a _ _ f, t⟩, ne⟩
theorem Pot.mono {H : AHeap} {p q : Addr} {n n' : Nat} (P : Pot H p q n) (h : n ≤ n') : Pot H p q n' := by
  obtain ⟨⟨s, c, e, a, b, c', d⟩, f, ne⟩ := P
  exact ⟨⟨s, c, e, a, b, c', Int.le_trans d (Int.ofNat_le.mpr h)⟩, f, ne⟩

noncomputable def SIGNS : List Nat := cs "ab %25'*e" ++ cs "é•"
noncomputable def CHSETS : List PV := [.tup [.str (cs "utf-8"), .str (cs "utf-8")], .tup [.str (cs "UTF8"), .str (cs "utf-8")], .tup [.str (cs "ISO-8859-1"), .str (cs "iso-8859-1")], .tup [.str (cs "us-ascii"), .str (cs "us-ascii")], .tup [.str (cs "x-none"), .str (cs "utf-8")], .tup [.str (cs ""), .str (cs "utf-8")]]
noncomputable def encSign (ch : List Nat) (c : Nat) : List Nat := if c < 128 then [c] else if ch = cs "iso-8859-1" ∧ c < 256 then [c] else if ch ≠ cs "utf-8" then [63] else if c < 2048 then [192 + c / 64, 128 + c % 64] else [224 + c / 4096, 128 + c / 64 % 64, 128 + c % 64]

section
variable {G : Ctx} {L : Nat} {H : AHeap} {k : KV}
theorem c_signs (h : k (.str SIGNS) H) (lv : Nat.ble L 59 = true := by rfl) : CallX G L (.ref 388) [] H k := by
  refine fn_goX f388 ?_ lv
  refine p_scat (Nat.le_of_ble_eq_true (by kernel_rfl)) ?_
  exact .here h

theorem c_charsets (h : ∀ L, H L = none → k (.ref L) (H.set L (.list CHSETS))) (lv : Nat.ble L 59 = true := by rfl) : CallX G L (.ref 395) [] H k := by
  refine fn_goX f395 ?_ lv
  refine s_new fun M hL => ?_
  exact .here (h M hL)

theorem ints1 {x : Int} : intsOf [.int x] = some [x] := rfl
theorem x_byte {M : Addr} {c : Nat} {Q : KV} (e : H M = some (.list [.int c])) (hc : c < 256) (h : Q (.bytes [c]) H) : CallX G L (.ty "bytes") [.ref M] H Q :=
  x_bytes e ints1 ⟨Nat.le_of_ble_eq_true rfl, fun n hn => by rw [List.mem_singleton.mp hn]; exact ⟨Int.natCast_nonneg _, Int.ofNat_lt.mpr hc⟩⟩ h
theorem c_sign_octets {c : Nat} {ch : List Nat} (hc : c < 65536) (h : k (.bytes (encSign ch c)) H) (lv : Nat.ble L 59 = true := by rfl) : CallX G L (.ref 402) [.str [c], .str ch] H k := by
  refine fn_goX f402 ?_ lv
  have g : ∀ r, r = encSign ch c → k (.bytes r) H := fun r e => e ▸ h
  have one : ∀ r, r 2 = some (.int c) → c < 256 → encSign ch c = [c] → XSs G (59 + 1) (.cons (.ret (.call (.ty "bytes") (.cons (.list (.cons (.loc 2) .nil)) .nil))) .nil) r H (retR k) := fun r h2 q e => by
    repeat' (first | infer_instance | fail)
    refine s_new fun M hL => ?_
    repeat' (first | infer_instance | fail)
    refine x_byte (AHeap.set_same _ _ _) q ?_
    exact .to (AHeap.Le.set hL) (g _ e.symm)
  by_cases q : c < 128
  · have q' : (c : Int) < 128 := Int.ofNat_lt.mpr q
    repeat' (first | infer_instance | fail)
    exact one ((argS [.str [c], .str ch] 0).put 2 (.int c)) rfl (by omega) (if_pos q)
  have q' : ¬ (c : Int) < 128 := fun x => q (Int.ofNat_lt.mp x)
  by_cases hi : ch = cs "iso-8859-1"
  · have nu : ¬ ch = cs "utf-8" := fun x => csNe.1 (hi.symm.trans x)
    by_cases ql : c < 256
    · have ql' : (c : Int) < 256 := Int.ofNat_lt.mpr ql
      repeat' (first | infer_instance | fail)
      exact one ((argS [.str [c], .str ch] 0).put 2 (.int c)) rfl ql (by rw [encSign, if_neg q, if_pos ⟨hi, ql⟩])
    · have ql' : ¬ (c : Int) < 256 := fun x => ql (Int.ofNat_lt.mp x)
      repeat' (first | infer_instance | fail)
      refine .here (g _ ?_)
      rw [encSign, if_neg q, if_neg (fun x => ql x.2), if_pos nu]
  by_cases nu : ch = cs "utf-8"
  case neg =>
    repeat' (first | infer_instance | fail)
    refine .here (g _ ?_)
    rw [encSign, if_neg q, if_neg (fun x => hi x.1), if_pos nu]
  by_cases q2 : c < 2048
  · have q3 : (c : Int) < 2048 := Int.ofNat_lt.mpr q2
    repeat' (first | infer_instance | fail)
    refine p_div (by decide) ?_
    repeat' (first | infer_instance | fail)
    refine p_mod (by decide) ?_
    refine s_new fun M hL => ?_
    repeat' (first | infer_instance | fail)
    refine x_bytes (ns := [192 + (c : Int) / 64, 128 + (c : Int) % 64]) (AHeap.set_same _ _ _) rfl ⟨Nat.le_of_ble_eq_true rfl, fun n hn => ?_⟩ ?_
    · rcases List.mem_cons.mp hn with rfl | hn
      · omega
      · rw [List.mem_singleton.mp hn]; omega
    refine .to (AHeap.Le.set hL) (g _ ?_)
    rw [encSign, if_neg q, if_neg (fun x => hi x.1), if_neg (fun x => x nu), if_pos q2]
    rfl
  · have q3 : ¬ (c : Int) < 2048 := fun x => q2 (Int.ofNat_lt.mp x)
    repeat' (first | infer_instance | fail)
    refine p_div (by decide) ?_
    repeat' (first | infer_instance | fail)
    refine p_div (by decide) ?_
    refine p_mod (by decide) ?_
    repeat' (first | infer_instance | fail)
    refine p_mod (by decide) ?_
    refine s_new fun M hL => ?_
    repeat' (first | infer_instance | fail)
    refine x_bytes (ns := [224 + (c : Int) / 4096, 128 + (c : Int) / 64 % 64, 128 + (c : Int) % 64]) (AHeap.set_same _ _ _) rfl ⟨Nat.le_of_ble_eq_true rfl, fun n hn => ?_⟩ ?_
    · rcases List.mem_cons.mp hn with rfl | hn
      · omega
      rcases List.mem_cons.mp hn with rfl | hn
      · omega
      · rw [List.mem_singleton.mp hn]; omega
    refine .to (AHeap.Le.set hL) (g _ ?_)
    rw [encSign, if_neg q, if_neg (fun x => hi x.1), if_neg (fun x => x nu), if_neg q2]
    rfl

theorem c_law_quoted {d : List Nat} (z : d.length ≤ 100000) (zb : ∀ c ∈ d, c < 256 ∧ c ≠ 34 ∧ c ≠ 92) (h : k (.bytes ([34] ++ d ++ [34])) H) (lv : Nat.ble L 59 = true := by rfl) : CallX G L (.ref 414) [.bytes d] H k := by
  refine fn_goX f414 ?_ lv
  have zm : d.length ≤ 1000000 := Nat.le_trans z (Nat.le_of_ble_eq_true rfl)
  refine i_bytes (lenz zm) (comp_gen (fun rest acc _ H' => H.Le H' ∧ ∃ pre r, d = pre ++ r ∧ rest = r.map (fun (c : Nat) => PV.int c) ∧ acc = (pre.map fun c => [c]).map .bytes) ?_ ?_ _ _ _ _ ⟨.refl H, [], d, rfl, rfl, rfl⟩)
  · rintro x xs r' acc H' ⟨le, pre, r, hd, hr, ha⟩ k' hk'
    cases r with
    | nil => cases hr
    | cons c r =>
      rw [List.map_cons, List.cons.injEq] at hr
      obtain ⟨rfl, rfl⟩ := hr
      have hc := zb c (by rw [hd]; exact List.mem_append_right _ (.head _))
      have nm : ¬ (c : Int).toNat ∈ [34, 92] := fun q => (List.mem_cons.mp q).elim hc.2.1 fun q => hc.2.2 (List.mem_singleton.mp q)
      repeat' (first | infer_instance | fail)
      refine p_in_bytes (a := [34, 92]) ⟨Nat.le_of_ble_eq_true rfl, Int.natCast_nonneg _, Int.ofNat_lt.mpr hc.1⟩ ?_
      repeat' (first | infer_instance | fail)
      refine s_new fun M hL => ?_
      repeat' (first | infer_instance | fail)
      refine x_byte (AHeap.set_same _ _ _) hc.1 ?_
      refine And.intro ?_ (hk' _ _ _ trivial ⟨le_set le (le_none le hL), pre ++ [c], r, by rw [hd, List.append_assoc]; rfl, rfl, by rw [ha, List.map_append, List.map_append]; rfl⟩)
      rw [ha, List.length_map, List.length_map]
      exact Nat.le_trans (by rw [hd, List.length_append]; exact Nat.le_add_right _ _) (lenz zm)
  · rintro r' acc H' ⟨le, pre, r, hd, hr, rfl⟩
    cases r with
    | cons => cases hr
    | nil =>
      rw [List.append_nil] at hd; subst hd
      refine s_new fun M hL => ?_
      repeat' (first | infer_instance | fail)
      have jl : joinL [] (d.map fun c => [c]) = d := (joinL_nil _).trans (flat_one _)
      refine x_bjoin (x := []) (AHeap.set_same _ _ _) (bytesOf_map _) ⟨by rw [jl]; exact zm, by rw [List.length_map, List.length_map]; exact zm⟩ ?_
      rw [jl]
      refine p_cat (by rw [List.length_cons, List.length_nil]; omega) ?_
      repeat' (first | infer_instance | fail)
      refine p_cat (by rw [List.length_append, List.length_cons, List.length_nil]; omega) ?_
      exact .to (le_set le (le_none le hL)) h
end

-- d6

section
variable {G : Ctx} {L : Nat} {H : AHeap} {k : KV}
/-- a percent-coded unit as the law makes it -/
noncomputable def PU.good : PU → Prop
  | .lit c => 97 ≤ c ∧ c ≤ 122
  | .hex a b => isHex a ∧ isHex b ∧ (48 ≤ a ∧ a ≤ 57 ∨ 65 ≤ a ∧ a ≤ 70 ∨ 97 ≤ a ∧ a ≤ 102) ∧ (48 ≤ b ∧ b ≤ 57 ∨ 65 ≤ b ∧ b ≤ 70 ∨ 97 ≤ b ∧ b ≤ 102)
theorem PU.good.ok {u : PU} (h : u.good) : u.ok := by
  cases u with
  | lit c => exact ⟨by have := h.1; have := h.2; omega, by have := h.2; omega⟩
  | hex a b => exact ⟨h.1, h.2.1⟩
noncomputable def lowHex : List Nat := [48, 49, 50, 51, 52, 53, 54, 55, 56, 57, 97, 98, 99, 100, 101, 102]
noncomputable def isHexB (c : Nat) : Bool := decide (upc c ∈ HEX) && decide (c < 256) && (decide (48 ≤ c ∧ c ≤ 57) || decide (65 ≤ c ∧ c ≤ 70) || decide (97 ≤ c ∧ c ≤ 102))
theorem isHexB_iff {c : Nat} (h : isHexB c = true) : isHex c ∧ (48 ≤ c ∧ c ≤ 57 ∨ 65 ≤ c ∧ c ≤ 70 ∨ 97 ≤ c ∧ c ≤ 102) := by
  simp only [isHexB, Bool.and_eq_true, Bool.or_eq_true, decide_eq_true_eq] at h
  exact ⟨⟨h.1.1, h.1.2⟩, by rcases h.2 with (a | a) | a; exact .inl a; exact .inr (.inl a); exact .inr (.inr a)⟩
theorem hex_facts : ∀ i : Fin 16, (isHexB (lowHex.getD i 0) && (hv (lowHex.getD i 0) == i.val) && isHexB (HEX.getD i 0) && (hv (HEX.getD i 0) == i.val)) = true := by decide +kernel
theorem hex_good {fg : List Nat} (hf : fg = lowHex ∨ fg = HEX) {c : Nat} (hc : c < 256) : PU.good (.hex (fg.getD (c / 16) 0) (fg.getD (c % 16) 0)) ∧ PU.val (.hex (fg.getD (c / 16) 0) (fg.getD (c % 16) 0)) = c := by
  have one : ∀ i, i < 16 → isHexB (fg.getD i 0) = true ∧ hv (fg.getD i 0) = i := by
    intro i hi
    have := hex_facts ⟨i, hi⟩
    simp only [Bool.and_eq_true, beq_iff_eq] at this
    rcases hf with rfl | rfl
    · exact ⟨this.1.1.1, this.1.1.2⟩
    · exact ⟨this.1.2, this.2⟩
  have h1 := one (c / 16) (by omega)
  have h2 := one (c % 16) (by omega)
  obtain ⟨a1, a2⟩ := isHexB_iff h1.1
  obtain ⟨b1, b2⟩ := isHexB_iff h2.1
  refine ⟨⟨a1, b1, a2, b2⟩, ?_⟩
  show 16 * hv _ + hv _ = c
  rw [h1.2, h2.2]; omega

theorem p_bitemG {x : List Nat} {a : Nat} (z : x.length ≤ 1000000) (ha : a < x.length) (h : k (.int (x.getD a 0 : Nat)) H) : itemW (.bytes x) (.int a) H k :=
  p_bitem ⟨lenz z, Int.natCast_nonneg _, Int.ofNat_lt.mpr ha⟩ (by rw [Int.toNat_natCast]; exact h)
theorem ptxt_le {us : List PU} : (ptxt us).length ≤ 3 * us.length := by
  induction us with
  | nil => exact Nat.zero_le _
  | cons u us ih => rw [ptxt, List.flatMap_cons, List.length_append]; unfold ptxt at ih; cases u <;> simp only [PU.txt, List.length_cons, List.length_nil] <;> omega
noncomputable def pctE : RSs := match b409 with
  | .cons _ (.cons (.fr _ _ (.cons (.ite _ _ e) _)) _) => e
  | _ => .nil
noncomputable def pctE2 : RSs := match pctE with
  | .cons _ e => e
  | _ => .nil
theorem c_law_percent {p q : Addr} {n : Nat} {d : List Nat} (hn : n + 2 * d.length ≤ 1000000) (z : d.length ≤ 10000) (zb : ∀ c ∈ d, c < 256) (P0 : Pot H p q n)
    (h : ∀ (us : List PU) H', (∀ u ∈ us, u.good) → us.map PU.val = d → Pot H' p q (n + 2 * d.length) → PotLe H H' p q → k (.bytes (ptxt us)) H') (lv : Nat.ble L 58 = true := by rfl) : CallX G L (.ref 409) [.ref p, .bytes d] H k := by
  refine fn_goX f409 ?_ lv
  refine i_bytes (lenz (Nat.le_trans z (Nat.le_of_ble_eq_true rfl))) ?_
  refine for_gen (fun rest r' H' => ∃ (pre r : List Nat) (us : List PU), d = pre ++ r ∧ rest = r.map (fun (c : Nat) => PV.int c) ∧ us.map PU.val = pre ∧ (∀ u ∈ us, u.good) ∧ r' 0 = some (.ref p) ∧ r' 2 = some (.bytes (ptxt us)) ∧
    Pot H' p q (n + 2 * pre.length) ∧ PotLe H H' p q) ?_ ?_ _ _ _ ⟨[], d, [], rfl, rfl, rfl, (fun _ h => nomatch h), rfl, rfl, P0, .refl _ _ _⟩
  · rintro r' H' ⟨pre, r, us, hd, hr, hv', hg, hm1, hm2, PH', le⟩
    cases r with
    | cons => cases hr
    | nil =>
      rw [List.append_nil] at hd; subst hd
      repeat' (first | infer_instance | fail)
      exact .here (h us H' hg hv' PH' le)
  · rintro x xs r' H' ⟨pre, r, us, hd, hr, hv', hg, hm1, hm2, PH', le⟩ k' hk'
    cases r with
    | nil => cases hr
    | cons c r =>
      rw [List.map_cons, List.cons.injEq] at hr
      obtain ⟨rfl, rfl⟩ := hr
      have hc := zb c (by rw [hd]; exact List.mem_append_right _ (.head _))
      have dl : d.length = pre.length + (r.length + 1) := by rw [hd, List.length_append, List.length_cons]
      have ul : us.length = pre.length := by rw [← hv', List.length_map]
      have tl := @ptxt_le us
      have nx : ∀ (u : PU) (r'' : Slots) (H2 : AHeap), u.good → u.val = c → r'' 0 = some (.ref p) → r'' 2 = some (.bytes (ptxt us ++ u.txt)) → Pot H2 p q (n + 2 * pre.length + 2) → PotLe H' H2 p q → k' .next r'' H2 := fun u r'' H2 gu eu h0 h2 P2 le2 =>
        hk' .next _ _ ⟨trivial, pre ++ [c], r, us ++ [u], by rw [hd, List.append_assoc]; rfl, rfl, by rw [List.map_append, hv', ← eu]; rfl, fun v hv => (List.mem_append.mp hv).elim (hg v) fun hv => by rw [List.mem_singleton.mp hv]; exact gu, h0, by rw [h2, ptxt_app]; congr 3; exact (List.append_nil _).symm, by rw [List.length_append]; exact P2, le.trans le2⟩
      have hexB : ∀ (fg : List Nat) (r'' : Slots) (H2 : AHeap), fg = lowHex ∨ fg = HEX → r'' 0 = some (.ref p) → r'' 2 = some (.bytes (ptxt us)) → r'' 3 = some (.int c) → r'' 4 = some (.bytes fg) → Pot H2 p q (n + 2 * pre.length + 2) → PotLe H' H2 p q →
          XSs G (58 + 1) pctE2 r'' H2 (fThen (XSs G (58 + 1) .nil) k') := fun fg r'' H2 hf h0 h2 h3 h4 P2 le2 => by
        have fl : fg.length = 16 := by rcases hf with rfl | rfl <;> rfl
        obtain ⟨hgd, hvv⟩ := hex_good hf hc
        repeat' (first | infer_instance | fail)
        refine p_div (by decide) ?_
        refine p_bitemG (x := fg) (a := c / 16) (by omega) (by omega) ?_
        repeat' (first | infer_instance | fail)
        refine p_mod (by decide) ?_
        refine p_bitemG (x := fg) (a := c % 16) (by omega) (by omega) ?_
        refine s_new fun M hL => ?_
        repeat' (first | infer_instance | fail)
        refine x_bytes (ns := [37, ((fg.getD (c / 16) 0 : Nat) : Int), ((fg.getD (c % 16) 0 : Nat) : Int)]) (AHeap.set_same _ _ _) rfl ⟨Nat.le_of_ble_eq_true rfl, fun x hx => ?_⟩ ?_
        · rcases List.mem_cons.mp hx with rfl | hx
          · decide
          rcases List.mem_cons.mp hx with rfl | hx
          · exact ⟨Int.natCast_nonneg _, Int.ofNat_lt.mpr hgd.1.2⟩
          · rw [List.mem_singleton.mp hx]; exact ⟨Int.natCast_nonneg _, Int.ofNat_lt.mpr hgd.2.1.2⟩
        refine p_cat (by rw [List.length_map]; show _ + 3 ≤ _; omega) ?_
        repeat' (first | infer_instance | fail)
        exact nx (.hex (fg.getD (c / 16) 0) (fg.getD (c % 16) 0)) _ _ hgd hvv h0 rfl (P2.le (AHeap.Le.set hL)) (le2.trans (PotLe.of (AHeap.Le.set hL)))
      have hexp : ∀ (r'' : Slots) (H2 : AHeap), r'' 0 = some (.ref p) → r'' 2 = some (.bytes (ptxt us)) → r'' 3 = some (.int c) → Pot H2 p q (n + 2 * pre.length + 1) → PotLe H' H2 p q →
          XSs G (58 + 1) pctE r'' H2 (fThen (XSs G (58 + 1) .nil) k') := fun r'' H2 h0 h2 h3 P2 le2 => by
        repeat' (first | infer_instance | fail)
        refine c_draw (by omega) (by decide) P2 fun r2 H3 r20 r21 P3 ch3 => ?_
        refine br_dec (fun _ => ?_) (fun _ => ?_)
        · exact hexB lowHex (r''.put 4 (.bytes lowHex)) H3 (.inl rfl) h0 h2 h3 rfl P3 (le2.trans ch3.le)
        · exact hexB HEX (r''.put 4 (.bytes HEX)) H3 (.inr rfl) h0 h2 h3 rfl P3 (le2.trans ch3.le)
      by_cases c1 : 97 ≤ c ∧ c ≤ 122
      · have c2 : (97 : Int) ≤ c := Int.ofNat_le.mpr c1.1
        have c3 : (c : Int) ≤ 122 := Int.ofNat_le.mpr c1.2
        repeat' (first | infer_instance | fail)
        refine c_draw (by omega) (by decide) PH' fun r1 H2 r10 r11 P2 ch2 => ?_
        refine br_dec (fun _ => br_t ?_) (fun _ => br_f ?_)
        · skip
          repeat' (first | infer_instance | fail)
          refine s_new fun M hL => ?_
          repeat' (first | infer_instance | fail)
          refine x_byte (AHeap.set_same _ _ _) hc ?_
          refine p_cat (by show _ + 1 ≤ _; omega) ?_
          repeat' (first | infer_instance | fail)
          exact nx (.lit c) _ _ c1 rfl hm1 rfl ((P2.le (AHeap.Le.set hL)).mono (Nat.le_succ _)) (ch2.le.trans (PotLe.of (AHeap.Le.set hL)))
        · exact hexp (r'.put 3 (.int c)) H2 hm1 hm2 rfl P2 ch2.le
      · have no := hexp (r'.put 3 (.int c)) H' hm1 hm2 rfl (PH'.mono (Nat.le_succ _)) (.refl _ _ _)
        refine br_dec (fun x => ?_) (fun _ => br_f (br_f no))
        refine br_dec (fun y => absurd ⟨Int.ofNat_le.mp x, Int.ofNat_le.mp y⟩ c1) (fun _ => br_f no)
end

-- d7

theorem Sg.split {ch bs : List Nat} {c : Nat} (h : Sg ch bs c) : (bs = [c] ∧ c < 256 ∧ (c < 128 ∨ ¬ ch = cs "utf-8")) ∨ (ch = cs "utf-8" ∧ ∃ a b, bs = [a, b] ∧ c = a % 32 * 64 + b % 64 ∧ 194 ≤ a ∧ a ≤ 223 ∧ 128 ≤ b ∧ b ≤ 191) ∨
    (ch = cs "utf-8" ∧ ∃ a b, bs = [226, a, b] ∧ c = (226 % 16 * 64 + a % 64) * 64 + b % 64 ∧ 128 ≤ a ∧ a ≤ 191 ∧ 128 ≤ b ∧ b ≤ 191) := by
  rcases h with ⟨e, hs⟩ | ⟨e, hc, hb⟩ | ⟨e, hc, hb⟩
  · cases hs with
    | one hc => exact .inl ⟨rfl, Nat.lt_trans hc (by decide), .inl hc⟩
    | two h1 h2 h3 h4 => exact .inr (.inl ⟨e, _, _, rfl, rfl, h1, h2, h3, h4⟩)
    | three h1 h2 h3 h4 => exact .inr (.inr ⟨e, _, _, rfl, rfl, h1, h2, h3, h4⟩)
  · exact .inl ⟨hb, hc, .inr (by rw [e]; exact csNe.1)⟩
  · exact .inl ⟨hb, Nat.lt_trans hc (by decide), .inl hc⟩
section
variable {G : Ctx} {L : Nat} {H : AHeap} {k : KV}
theorem c_law_text {ch : List Nat} {us : List (List Nat × Nat)} (ok : ∀ u ∈ us, Sg ch u.1 u.2) (z : (utxt us).length ≤ 100000) (h : k (.str (us.map (·.2))) H) (lv : Nat.ble L 59 = true := by rfl) : CallX G L (.ref 421) [.bytes (utxt us), .str ch] H k := by
  have ul := utxt_len ok
  have zm : (utxt us).length ≤ 1000000 := Nat.le_trans z (Nat.le_of_ble_eq_true rfl)
  refine fn_goX f421 ?_ lv
  refine wh_go (fun (x : List (List Nat × Nat) × List (List Nat × Nat)) r' H' => us = x.1 ++ x.2 ∧ r' 1 = some (.str ch) ∧ r' 0 = some (.bytes (utxt us)) ∧ r' 2 = some (.str (x.1.map (·.2))) ∧ r' 3 = some (.int (utxt x.1).length) ∧
    H' = H) (fun x => x.2.length) ([], us) ⟨rfl, rfl, rfl, rfl, rfl, rfl⟩ ?_
  rintro ⟨done, rest⟩ r' H' ⟨hu, hm0, hm1, hm2, hm3, rfl⟩
  dsimp only at hu hm2 hm3
  have e : utxt us = utxt done ++ utxt rest := by rw [hu, utxt_app]
  have tl : (utxt us).length = (utxt done).length + (utxt rest).length := by rw [e, List.length_append]
  repeat' (first | infer_instance | fail)
  refine x_lenb (lenz zm) ?_
  cases rest with
  | nil =>
    have q : ¬ ((utxt done).length : Int) < (utxt us).length := by rw [tl]; exact Int.lt_irrefl _
    repeat' (first | infer_instance | fail)
    rw [List.append_nil] at hu; subst hu
    exact .here h
  | cons u r =>
    have hok := ok u (by rw [hu]; exact List.mem_append_right _ (.head _))
    have q : ((utxt done).length : Int) < (utxt us).length := Int.ofNat_lt.mpr (by have := utxt_len (us := u :: r) fun v hv => ok v (by rw [hu]; exact List.mem_append_right _ hv); rw [List.length_cons] at this; omega)
    have hlt := hok.lt
    have sc : (done.map (·.2)).length + [u.2].length ≤ 16777216 := by
      have : done.length + 1 ≤ us.length := by rw [hu, List.length_append, List.length_cons]; omega
      rw [List.length_map]; show done.length + 1 ≤ _; omega
    have e : utxt us = utxt done ++ u.1 ++ utxt r := by rw [e, List.append_assoc]; rfl
    have fin : ∀ (r'' : Slots) (s : List Nat), r'' 1 = some (.str ch) → r'' 0 = some (.bytes (utxt us)) → r'' 2 = some (.str (done.map (·.2) ++ s)) → s = [u.2] → r'' 3 = some (.int ((utxt done).length + u.1.length : Nat)) →
        ∃ n', n' < (u :: r).length ∧ WI (fun (x : List (List Nat × Nat) × List (List Nat × Nat)) r' H'' => us = x.1 ++ x.2 ∧ r' 1 = some (.str ch) ∧ r' 0 = some (.bytes (utxt us)) ∧ r' 2 = some (.str (x.1.map (·.2))) ∧ r' 3 = some (.int (utxt x.1).length) ∧ H'' = H') (fun x => x.2.length) n' r'' H' :=
      fun r'' s h1 h0 h2 hs h3 => bk (done ++ [u], r) (Nat.lt_succ_self _) ⟨by rw [hu, List.append_assoc]; rfl, h1, h0, by rw [h2, hs, List.map_append]; rfl, by rw [h3, utxt_app, List.length_append, utxt_one], rfl⟩
    obtain ⟨bs, cc⟩ := u
    dsimp only at hok sc e fin hlt
    have at0 := fun {i : Nat} {Q : KV} {n : Int} (h : i < bs.length) (hn : n = ((utxt done).length + i : Nat)) (k : Q (.int (bs.getD i 0 : Nat)) H') => at_it (H := H') (Q := Q) e zm h hn k
    repeat' (first | infer_instance | fail)
    rcases hok.split with ⟨hb, h2, h3⟩ | ⟨hcu, a, b, hb, ec, h1, h2, h3, h4⟩ | ⟨hcu, b, c, hb, ec, h1, h2, h3, h4⟩
    · subst hb
      have c1 : (cc : Int) < 128 ∨ ¬ (cc : Int) < 128 ∧ ¬ ch = cs "utf-8" := by
        by_cases c0 : cc < 128
        · exact .inl (Int.ofNat_lt.mpr c0)
        · exact .inr ⟨fun x => c0 (Int.ofNat_lt.mp x), h3.resolve_left c0⟩
      rcases c1 with c1 | ⟨c1, c2⟩
      all_goals
        refine at0 (i := 0) (Nat.lt_succ_self _) rfl ?_
        repeat' (first | infer_instance | fail)
        refine at0 (i := 0) (Nat.lt_succ_self _) rfl ?_
        repeat' (first | infer_instance | fail)
        refine x_chr ⟨Int.natCast_nonneg _, Int.ofNat_lt.mpr hlt⟩ ?_
        refine p_scat sc ?_
        repeat' (first | infer_instance | fail)
        exact fin _ _ hm0 hm1 rfl rfl rfl
    · subst hb ec
      have i1 : ¬ (a : Int) < 128 := by omega
      have i2 : (a : Int) < 224 := by omega
      refine at0 (i := 0) (Nat.zero_lt_succ _) rfl ?_
      repeat' (first | infer_instance | fail)
      refine at0 (i := 0) (Nat.zero_lt_succ _) rfl ?_
      repeat' (first | infer_instance | fail)
      refine at0 (i := 0) (Nat.zero_lt_succ _) rfl ?_
      repeat' (first | infer_instance | fail)
      refine at0 (i := 0) (Nat.zero_lt_succ _) rfl ?_
      refine p_mod (by decide) ?_
      refine p_mul ⟨by show -(2 ^ 64) < (a : Int) % 32; omega, by show (a : Int) % 32 < 2 ^ 64; omega⟩ ?_
      repeat' (first | infer_instance | fail)
      refine at0 (i := 1) (Nat.lt_succ_self _) rfl ?_
      refine p_mod (by decide) ?_
      repeat' (first | infer_instance | fail)
      refine x_chr (i := ((a % 32 * 64 + b % 64 : Nat) : Int)) ⟨Int.natCast_nonneg _, Int.ofNat_lt.mpr hlt⟩ ?_
      refine p_scat sc ?_
      repeat' (first | infer_instance | fail)
      exact fin _ _ hm0 hm1 rfl rfl rfl
    · subst hb ec
      refine at0 (i := 0) (Nat.zero_lt_succ _) rfl ?_
      repeat' (first | infer_instance | fail)
      refine at0 (i := 0) (Nat.zero_lt_succ _) rfl ?_
      repeat' (first | infer_instance | fail)
      refine at0 (i := 0) (Nat.zero_lt_succ _) rfl ?_
      repeat' (first | infer_instance | fail)
      refine at0 (i := 0) (Nat.zero_lt_succ _) rfl ?_
      refine p_mod (by decide) ?_
      refine p_mul ⟨by show -(2 ^ 64) < ((226 : Nat) : Int) % 16; omega, by show ((226 : Nat) : Int) % 16 < 2 ^ 64; omega⟩ ?_
      repeat' (first | infer_instance | fail)
      refine at0 (i := 1) (Nat.lt_succ_of_lt (Nat.lt_succ_self _)) rfl ?_
      refine p_mod (by decide) ?_
      refine p_mul ⟨by show -(2 ^ 64) < (b : Int) % 64; omega, by show (b : Int) % 64 < 2 ^ 64; omega⟩ ?_
      repeat' (first | infer_instance | fail)
      refine at0 (i := 2) (Nat.lt_succ_self _) rfl ?_
      refine p_mod (by decide) ?_
      repeat' (first | infer_instance | fail)
      have e3 : ((226 : Nat) : Int) % 16 * 4096 + (b : Int) % 64 * 64 + (c : Int) % 64 = (((226 % 16 * 64 + b % 64) * 64 + c % 64 : Nat) : Int) := by omega
      refine x_chr (i := ((226 : Nat) : Int) % 16 * 4096 + (b : Int) % 64 * 64 + (c : Int) % 64) (by rw [e3]; exact ⟨Int.natCast_nonneg _, Int.ofNat_lt.mpr hlt⟩) ?_
      rw [e3]
      refine p_scat sc ?_
      repeat' (first | infer_instance | fail)
      exact fin _ _ hm0 hm1 rfl rfl rfl
end

-- d8

section
variable {G : Ctx} {L : Nat} {H : AHeap} {k : KV}
theorem p_pow (h : ∀ N : Int, 0 < N → k (.int N) H) : binW .Pow (.int 10) (.int 400) H k := ⟨⟨rfl, rfl⟩, h _ (Int.pow_pos (by decide))⟩
/-- the law's own integers, given in the base -/
theorem c_law_pot {xs : List Int} (zx : xs.length ≤ 63) (h : ∀ p q H', Pot H' p q 0 → H.Le H' → H p = none → H q = none → k (.ref p) H') (lv : Nat.ble L 59 = true := by rfl) : CallX G L (.ref 374) [.flist (xs.map .int)] H k := by
  refine fn_goX f374 ?_ lv
  have zl : (xs.map PV.int).length ≤ 1000000 := by rw [List.length_map]; exact Nat.le_trans zx (Nat.le_of_ble_eq_true rfl)
  refine p_fslice (lo := .none) (hi := .int 40) (i := 0) (j := min 40 xs.length) ⟨rfl, (part_big (i := 40) rfl).trans (by rw [List.length_map])⟩ zl fun M hL => ?_
  have ec : cut (xs.map PV.int) 0 (min 40 xs.length) = (xs.take (min 40 xs.length)).map PV.int := by unfold cut; rw [List.drop_zero, Nat.sub_zero, List.map_take]
  rw [ec]
  have yl0 : (xs.take (min 40 xs.length)).length ≤ 40 := by rw [List.length_take]; omega
  generalize xs.take (min 40 xs.length) = ys at yl0 ⊢
  have yl : (ys.map PV.int).length ≤ 40 := by rw [List.length_map]; exact yl0
  refine i_list (AHeap.set_same _ _ _) ?_
  refine comp_map id (AHeap.set_same _ _ _) ?_ (Nat.le_trans yl (Nat.le_of_ble_eq_true rfl)) fun r' => ?_
  · intro x hx r' k' hk'
    obtain ⟨c, hc, rfl⟩ := List.mem_map.mp hx
    exact x_int hk'
  rw [List.map_id]
  refine s_new fun M2 hL2 => ?_
  have le2 : H.Le ((H.set M (.list (ys.map .int))).set M2 (.list (ys.map .int))) := le_set (.set hL) (le_none (.set hL) hL2)
  have hG : ((H.set M (.list (ys.map .int))).set M2 (.list (ys.map .int))) M2 = some (.list (ys.map .int)) := AHeap.set_same _ _ _
  generalize ((H.set M (.list (ys.map .int))).set M2 (.list (ys.map .int))) = H1 at le2 hG ⊢
  repeat' (first | infer_instance | fail)
  refine i_list hG ?_
  refine for_gen (fun rest r' H' => H' = H1 ∧ ∃ (r : List Int) (s : Int), rest = r.map .int ∧ r' 2 = some (.ref M2) ∧ r' 3 = some (.int s) ∧ 0 ≤ s ∧ s < 2147483647) ?_ ?_ _ _ _ ⟨rfl, ys, 1, rfl, rfl, rfl, by decide, by decide⟩
  · rintro r' H' ⟨rfl, r, s, hr, hm1, hm2, s0, s1⟩
    have hm1' : (r'.clr 4) 2 = some (.ref M2) := hm1
    repeat' (first | infer_instance | fail)
    refine i_list hG ?_
    refine comp_gen (fun rest acc _ H2 => H2 = H' ∧ ∃ (r : List Int) (cs : List Int), rest = r.map .int ∧ acc = cs.map .int ∧ (∀ x ∈ cs, 0 ≤ x) ∧ cs.length + r.length ≤ 40) ?_ ?_ _ _ _ _ ⟨rfl, ys, [], rfl, rfl, (fun _ h => nomatch h), by rw [List.length_nil, Nat.zero_add]; exact yl0⟩
    · rintro x xs r' acc H' ⟨rfl, r, cs, hr, rfl, hc, hl2⟩ k' hk'
      cases r with
      | nil => cases hr
      | cons c r =>
        rw [List.map_cons, List.cons.injEq] at hr
        obtain ⟨rfl, rfl⟩ := hr
        repeat' (first | infer_instance | fail)
        refine p_pow fun N hN => ?_
        refine p_mod hN ?_
        rw [List.length_cons] at hl2
        refine And.intro (by rw [List.length_map]; omega) (hk' _ _ _ hG ⟨rfl, r, cs ++ [((c.natAbs : Nat) : Int) % N], rfl, by rw [List.map_append]; rfl, fun x hx => ?_, by rw [List.length_append, List.length_cons, List.length_nil]; omega⟩)
        rcases List.mem_append.mp hx with hx | hx
        · exact hc x hx
        · rw [List.mem_singleton.mp hx]; exact Int.emod_nonneg _ (Int.ne_of_gt hN)
    · rintro r' acc H' ⟨rfl, r, cs, hr, rfl, hc, hl2⟩
      refine s_new fun q hq => ?_
      repeat' (first | infer_instance | fail)
      refine s_new fun p hp => ?_
      have ne : p ≠ q := by rintro rfl; rw [AHeap.set_same] at hp; cases hp
      have hp0 : H' p = none := by rw [AHeap.set_other ne] at hp; exact hp
      exact .here (h p q _ ⟨⟨s, 0, AHeap.set_same _ _ _, s0, s1, by decide, by decide⟩, ⟨cs, by rw [AHeap.set_other (Ne.symm ne)]; exact AHeap.set_same _ _ _, hc, by omega⟩, ne⟩ (le_set (le_set le2 (le_none le2 hq)) (le_none le2 hp0)) (le_none le2 hp0) (le_none le2 hq))
  · rintro x xs r' H' ⟨rfl, r, s, hr, hm1, hm2, s0, s1⟩ k' hk'
    cases r with
    | nil => cases hr
    | cons c r =>
      rw [List.map_cons, List.cons.injEq] at hr
      obtain ⟨rfl, rfl⟩ := hr
      repeat' (first | infer_instance | fail)
      refine p_mul ⟨by omega, by omega⟩ ?_
      repeat' (first | infer_instance | fail)
      refine p_mod (by decide) ?_
      repeat' (first | infer_instance | fail)
      refine p_mod (by decide) ?_
      refine hk' .next _ _ ?_
      exact ⟨hG, rfl, r, _, rfl, hm1, rfl, Int.emod_nonneg _ (by decide), Int.emod_lt_of_pos _ (by decide)⟩
end

-- e2

noncomputable def RSs.drop : Nat → RSs → RSs
  | 0, b => b
  | n + 1, .cons _ b => b.drop n
  | _ + 1, .nil => .nil
noncomputable def RSs.hd : Nat → RSs → RS
  | 0, .cons s _ => s
  | n + 1, .cons _ b => b.hd n
  | _, .nil => .bad
theorem seqN {G : Ctx} {L : Nat} {ρ : Slots} {H : AHeap} {k : KF} {b : RSs} (n : Nat) (J : Slots → AHeap → Prop) (h2 : ∀ ρ H, J ρ H → XSs G L (b.drop (n + 1)) ρ H k) (h1 : ∀ k' : KF, (∀ ρ H, J ρ H → k' .next ρ H) → XS G L (b.hd n) ρ H k') (e : b.drop n = .cons (b.hd n) (b.drop (n + 1)) := by rfl) : XSs G L (b.drop n) ρ H k := by
  rw [e]; exact h1 _ h2
theorem seqJ {G : Ctx} {L : Nat} {ρ : Slots} {H : AHeap} {k : KF} {t : RS} {b : RSs} (J : Slots → AHeap → Prop) (h2 : ∀ ρ H, J ρ H → XSs G L b ρ H k) (h1 : ∀ k' : KF, (∀ ρ H, J ρ H → k' .next ρ H) → XS G L t ρ H k') : XSs G L (.cons t b) ρ H k :=
  h1 _ h2
noncomputable def lawB : List Stmt := d0.body
noncomputable def lawS : Scope := d0.scope
noncomputable def ODDS : List (List Nat) := [cs "name*00=x", cs "name*1000=x", cs "name*1a=x", cs "*0=x", cs "name**=x"]
/-- the tables at the law's end -/
structure LH (H : AHeap) (p q : Addr) (n : Nat) (Lr : Addr) (rows : List (List Nat)) : Prop where
  pot : Pot H p q n
  rows : H Lr = some (.list (rows.map .bytes))
  n1 : Lr ≠ p
  n2 : Lr ≠ q
theorem LH.draw {H H' : AHeap} {p q : Addr} {n n' : Nat} {Lr : Addr} {rows : List (List Nat)} (h : LH H p q n Lr rows) (P : Pot H' p q n') (c : PotCh H H' p q) : LH H' p q n' Lr rows :=
  ⟨P, by rw [c _ h.n1 h.n2]; exact h.rows, h.n1, h.n2⟩
theorem Pot.set {H : AHeap} {p q a : Addr} {n : Nat} {o : AObj} (P : Pot H p q n) (h1 : a ≠ p) (h2 : a ≠ q) : Pot (H.set a o) p q n := by
  obtain ⟨⟨s, c, e, r⟩, ⟨cells, f, t⟩, ne⟩ := P
  exact ⟨⟨s, c, by rw [AHeap.set_other (Ne.symm h1)]; exact e, r⟩, ⟨cells, by rw [AHeap.set_other (Ne.symm h2)]; exact f, t⟩, ne⟩
theorem Pot.new {H : AHeap} {p q a : Addr} {n : Nat} (P : Pot H p q n) (h : H a = none) : a ≠ p ∧ a ≠ q := by
  obtain ⟨⟨s, c, e, r⟩, ⟨cells, f, t⟩, ne⟩ := P
  exact ⟨fun z => (by rw [z, e] at h; cases h), fun z => (by rw [z, f] at h; cases h)⟩
theorem LH.new {H : AHeap} {p q a : Addr} {n : Nat} {Lr : Addr} {rows : List (List Nat)} {o : AObj} (h : LH H p q n Lr rows) (e : H a = none) : LH (H.set a o) p q n Lr rows :=
  ⟨h.pot.set (h.pot.new e).1 (h.pot.new e).2, by rw [AHeap.set_other (fun z => by rw [← z, h.rows] at e; cases e)]; exact h.rows, h.n1, h.n2⟩
theorem LH.set {H : AHeap} {p q : Addr} {n : Nat} {Lr : Addr} {rows rows' : List (List Nat)} (h : LH H p q n Lr rows) : LH (H.set Lr (.list (rows'.map .bytes))) p q n Lr rows' :=
  ⟨h.pot.set h.n1 h.n2, AHeap.set_same _ _ _, h.n1, h.n2⟩
theorem LH.other {H : AHeap} {p q a : Addr} {n : Nat} {Lr : Addr} {rows : List (List Nat)} {o : AObj} (h : LH H p q n Lr rows) (h1 : a ≠ p) (h2 : a ≠ q) (h3 : a ≠ Lr) : LH (H.set a o) p q n Lr rows :=
  ⟨h.pot.set h1 h2, by rw [AHeap.set_other (Ne.symm h3)]; exact h.rows, h.n1, h.n2⟩
theorem LH.dict {H : AHeap} {p q a : Addr} {n : Nat} {Lr : Addr} {rows : List (List Nat)} {kv : List (List Nat × PV)} {ep : Nat} (h : LH H p q n Lr rows) (e : H a = some (.sdict kv ep)) : a ≠ p ∧ a ≠ q ∧ a ≠ Lr := by
  obtain ⟨⟨s, c, e1, r⟩, ⟨cells, f, t⟩, ne⟩ := h.pot
  exact ⟨fun z => (by rw [z, e1] at e; cases e), fun z => (by rw [z, f] at e; cases e), fun z => (by rw [z, h.rows] at e; cases e)⟩
/-- the odd rows -/
noncomputable def oddOk (o : List Nat) : Bool := Nat.ble 2 o.length && Nat.ble o.length 20 && o.all (fun c => Nat.ble (c + 1) 256) && decide (o.take (o.length - 2) ≠ B0)
theorem odds_ok : ∀ o ∈ ODDS, oddOk o = true := by decide +kernel
theorem joinL_le {a : List Nat} {b : Nat} (ha : a.length ≤ 2) : ∀ {rs : List (List Nat)}, (∀ r ∈ rs, r.length ≤ b) → (joinL a rs).length ≤ (b + 2) * rs.length
  | [], _ => Nat.zero_le _
  | [r], h => by have := h r (.head _); show r.length ≤ (b + 2) * 1; omega
  | r :: s :: t, h => by
    have x := joinL_le ha (rs := s :: t) fun y hy => h y (.tail _ hy)
    have y := h r (.head _)
    rw [joinL, List.length_append, List.length_append, List.length_cons (a := r), Nat.mul_succ]
    omega
section
variable {G : Ctx} {L : Nat} {H : AHeap} {k : KV}
theorem law_end {ρ : Slots} {k : KF} {p q Lr Lp : Addr} {n ep : Nat} {rows : List (List Nat)} {us : List (List Nat × Nat)} {ch : List Nat} {base : List (List Nat × PV)} {told : Bool}
    (hn : n ≤ 100000) (L : LH H p q n Lr rows) (hp : H Lp = some (.sdict base ep)) (hb : base = [] ∨ base = [(B0, .str (cs "plain"))])
    (m1 : ρ 1 = some (.ref p)) (m2 : ρ 10 = some (.ref Lr)) (m3 : ρ 17 = some (.ref Lp)) (m4 : ρ 16 = some (.bool told)) (m5 : ρ 11 = some (.bytes (utxt us))) (m6 : ρ 3 = some (.str ch))
    (zr : rows.length ≤ 100) (zt : ∀ r ∈ rows, r.length ≤ 1000) (zu : told = true → (utxt us).length ≤ 1000 ∧ ∀ u ∈ us, Sg ch u.1 u.2)
    (hr : ∀ o ∈ ODDS, ∀ {H : AHeap} {k : KV}, (∀ L ep, H L = none → k (.tup [.str (cs "w"), .ref L]) (H.set L (.sdict (if told then sput (base ++ [(o.take (o.length - 2), .str (cs "x"))]) B0 (.str (us.map (·.2))) else base ++ [(o.take (o.length - 2), .str (cs "x"))]) ep))) →
      CallX G 1 (.ref 369) [.bytes ([119, 59, 32] ++ joinL [59, 32] (rows ++ [o]))] H k)
    (hK : ∀ ρ H, k (.ret (.bool true)) ρ H) : XSs G 1 (b426.drop 16) ρ H k := by
  refine s_new fun La hLa => ?_
  have L1 := L.new (o := .list (ODDS.map .bytes)) hLa
  have hLa1 : (H.set La (.list (ODDS.map .bytes))) La = some (.list (ODDS.map .bytes)) := AHeap.set_same _ _ _
  have hp1 : (H.set La (.list (ODDS.map .bytes))) Lp = some (.sdict base ep) := by rw [AHeap.set_other (fun z => by rw [← z, hp] at hLa; cases hLa)]; exact hp
  have n1 := L.pot.new hLa
  refine (?_ : fSub1 _ _ _ (H.set La (.list (ODDS.map .bytes))))
  generalize hG : H.set La (.list (ODDS.map .bytes)) = G1 at L1 hLa1 hp1 ⊢
  repeat' (first | infer_instance | fail)
  refine c_draw (by omega) (by decide) L1.pot fun r H2 r0 r1 P2 ch2 => ?_
  have L2 := L1.draw P2 ch2
  have dd := L1.dict hp1
  have hp2 : H2 Lp = some (.sdict base ep) := by rw [ch2 _ dd.1 dd.2.1]; exact hp1
  have hLa2 : H2 La = some (.list (ODDS.map .bytes)) := by rw [ch2 _ n1.1 n1.2]; exact hLa1
  obtain ⟨o, ho, ho2⟩ : ∃ o, o ∈ ODDS ∧ (ODDS.map PV.bytes).getD r.toNat .none = .bytes o := by
    have hl : r.toNat < ODDS.length := by show r.toNat < 5; omega
    exact ⟨ODDS[r.toNat], List.getElem_mem hl, by rw [List.getD_eq_getElem?_getD, List.getElem?_map, List.getElem?_eq_getElem hl]; rfl⟩
  refine p_litem hLa2 ⟨Nat.le_of_ble_eq_true rfl, r0, r1⟩ ?_
  rw [ho2]
  have ok := odds_ok o ho
  unfold oddOk at ok
  obtain ⟨o1, o2, o3, o4⟩ := and4 ok
  have o1 := Nat.le_of_ble_eq_true o1
  have o2 := Nat.le_of_ble_eq_true o2
  have o4 := of_decide_eq_true o4
  have h2r := L2.rows
  repeat' (first | infer_instance | fail)
  refine x_append h2r (by rw [List.length_map]; omega) ?_
  rw [show rows.map PV.bytes ++ [PV.bytes o] = (rows ++ [o]).map PV.bytes by rw [List.map_append]; rfl]
  have L3 := L2.set (rows' := rows ++ [o])
  have hp3 : (H2.set Lr (.list ((rows ++ [o]).map .bytes))) Lp = some (.sdict base ep) := by rw [AHeap.set_other dd.2.2]; exact hp2
  generalize (H2.set Lr (.list ((rows ++ [o]).map .bytes))) = H3 at L3 hp3 ⊢
  have tk : (o.take (o.length - 2)).length ≤ 20 := by rw [List.length_take]; omega
  repeat' (first | infer_instance | fail)
  refine p_bslice (lo := .none) (hi := .int (-2)) (i := 0) (j := o.length - 2) ⟨rfl, by simp only [partI, clipI]; rw [if_pos (by decide)]; congr 1; omega⟩ (by omega) ?_
  rw [cut_take]
  refine i_bytes (by omega) (comp_map chrP trivial ?_ (by rw [List.length_map]; omega) fun ρ' => ?_)
  · intro x hx r' k' hk'
    obtain ⟨c, hc, rfl⟩ := List.mem_map.mp hx
    have := Nat.le_of_ble_eq_true (List.all_eq_true.mp o3 c (List.mem_of_mem_take hc))
    exact x_chr ⟨Int.natCast_nonneg _, Int.ofNat_lt.mpr (Nat.lt_of_lt_of_le this (Nat.le_of_ble_eq_true rfl))⟩ hk'
  refine s_new fun M hM => ?_
  have LL4 := L3.new (o := .list (((o.take (o.length - 2)).map (fun (c : Nat) => PV.int c)).map chrP)) hM
  have hp4 : (H3.set M (.list (((o.take (o.length - 2)).map (fun (c : Nat) => PV.int c)).map chrP))) Lp = some (.sdict base ep) := by rw [AHeap.set_other (fun z => by rw [← z, hp3] at hM; cases hM)]; exact hp3
  have hM' : (H3.set M (.list (((o.take (o.length - 2)).map (fun (c : Nat) => PV.int c)).map chrP))) M = some (.list (((o.take (o.length - 2)).map (fun (c : Nat) => PV.int c)).map chrP)) := AHeap.set_same _ _ _
  generalize (H3.set M (.list (((o.take (o.length - 2)).map (fun (c : Nat) => PV.int c)).map chrP))) = H4 at LL4 hp4 hM' ⊢
  repeat' (first | infer_instance | fail)
  refine join_ones (l := o.take (o.length - 2)) ?_ M (by omega) (by rw [List.length_map, List.length_map]; omega) hM' ?_
  · rw [← strsOf_map, List.map_map, List.map_map]; rfl
  have bl : base.length ≤ 1 := by rcases hb with h | h <;> rw [h] <;> exact Nat.le_of_ble_eq_true rfl
  refine p_setsd hp4 (by omega) fun ep5 => ?_
  have esp : sput base (o.take (o.length - 2)) (.str (cs "x")) = base ++ [(o.take (o.length - 2), .str (cs "x"))] := by
    have n1 : base.any (fun p => decide (p.1 = o.take (o.length - 2))) = false := by
      rcases hb with h | h
      · rw [h]; rfl
      · rw [h]; show (decide (B0 = _) || false) = false; rw [decide_eq_false (Ne.symm o4)]; rfl
    unfold sput; rw [n1]; rfl
  rw [esp]
  have d4 := LL4.dict hp4
  have bstr : ∀ r ∈ base ++ [(o.take (o.length - 2), PV.str (cs "x"))], ∃ t, r.2 = .str t := by
    intro r hr
    rcases List.mem_append.mp hr with hr | hr
    · rcases hb with h | h <;> rw [h] at hr
      · cases hr
      · rw [List.mem_singleton.mp hr]; exact ⟨_, rfl⟩
    · rw [List.mem_singleton.mp hr]; exact ⟨_, rfl⟩
  have hr := fun {H : AHeap} {k : KV} => @hr o ho H k
  have bl2 : (base ++ [(o.take (o.length - 2), PV.str (cs "x"))]).length ≤ 2 := by rw [List.length_append]; exact Nat.succ_le_succ bl
  generalize hB : base ++ [(o.take (o.length - 2), PV.str (cs "x"))] = base2 at bstr bl2 hr ⊢
  have L5 := LL4.other (o := .sdict base2 ep5) d4.1 d4.2.1 d4.2.2
  have hp5 : (H4.set Lp (.sdict base2 ep5)) Lp = some (.sdict base2 ep5) := AHeap.set_same _ _ _
  generalize (H4.set Lp (.sdict base2 ep5)) = H5 at L5 hp5 ⊢
  have jz : (joinL [59, 32] (rows ++ [o])).length ≤ 200000 := by
    have := joinL_le (a := [59, 32]) (b := 1000) (Nat.le_refl _) (rs := rows ++ [o]) fun r hr => by
      rcases List.mem_append.mp hr with hr | hr
      · exact zt r hr
      · rw [List.mem_singleton.mp hr]; omega
    rw [List.length_append, List.length_cons, List.length_nil] at this
    omega
  have rl : ((rows ++ [o]).map PV.bytes).length ≤ 1000000 := by rw [List.length_map, List.length_append, List.length_cons, List.length_nil]; omega
  have cz : ([119, 59, 32] : List Nat).length + (joinL [59, 32] (rows ++ [o])).length ≤ 16777216 := by show 3 + _ ≤ _; omega
  have fin : ∀ (ρ' : Slots) (H6 : AHeap) (kvs : List (List Nat × PV)) (ep6 : Nat), ρ' 10 = some (.ref Lr) → ρ' 17 = some (.ref Lp) → LH H6 p q (n + 1) Lr (rows ++ [o]) → H6 Lp = some (.sdict kvs ep6) → (∀ r ∈ kvs, ∃ t, r.2 = .str t) → kvs = (if told then sput base2 B0 (.str (us.map (·.2))) else base2) → XSs G 1 (b426.drop 20) ρ' H6 k := fun ρ' H6 kvs ep6 a1 a2 L6 hp6 st ek => by
    subst ek
    have h6r := L6.rows
    repeat' (first | infer_instance | fail)
    refine x_bjoin (x := [59, 32]) h6r (bytesOf_map _) ⟨Nat.le_trans jz (Nat.le_of_ble_eq_true rfl), rl⟩ ?_
    refine p_cat cz ?_
    refine hr fun L ep' hL => ?_
    repeat' (first | infer_instance | fail)
    refine p_eqres (prog := G.prog) (w := G.w) G.ok.G (AHeap.set_same _ _ _) (by rw [AHeap.set_other (fun z => by rw [← z, hp6] at hL; cases hL)]; exact hp6) st ?_
    exact hK _ _
  cases told with
  | true =>
    obtain ⟨zu1, zu2⟩ := zu rfl
    repeat' (first | infer_instance | fail)
    refine c_law_text zu2 (by omega) ?_
    repeat' (first | infer_instance | fail)
    refine p_setsd hp5 (by omega) fun ep6 => ?_
    refine fin _ _ _ ep6 m2 m3 (L5.other (L5.dict hp5).1 (L5.dict hp5).2.1 (L5.dict hp5).2.2) (AHeap.set_same _ _ _) (fun r hr => ?_) rfl
    unfold sput at hr
    split at hr
    · obtain ⟨y, hy, rfl⟩ := List.mem_map.mp hr
      split
      · exact ⟨_, rfl⟩
      · exact bstr y hy
    · rcases List.mem_append.mp hr with hr | hr
      · exact bstr r hr
      · rw [List.mem_singleton.mp hr]; exact ⟨_, rfl⟩
  | false =>
    refine loc_go m4 (br_f ?_)
    exact fin (ρ.put 18 (.bytes o)) _ _ ep5 m2 m3 L5 hp5 bstr rfl
end

-- e3

noncomputable def low (r : Rw) : List Nat × List Nat := (r.nm.map lowN, r.v)
noncomputable def XX : List Nat := cs "x"
noncomputable def oddR (o : List Nat) : Rw := ⟨o.take (o.length - 2), XX, XX⟩
noncomputable def oddGood (o : List Nat) : Bool := decide ((oddR o).txt = o) && decide (partOf ((oddR o).nm.map lowN) = none) && decide ((oddR o).nm.map lowN = o.take (o.length - 2)) && decide (o.take (o.length - 2) ≠ B0) && decide (o.length ≤ 20) && (oddR o).nm.all (fun c => tokB (c : Int)) && decide ((oddR o).nm ≠ []) && o.all (fun c => decide (c < 256))
theorem odds_good : ∀ o ∈ ODDS, oddGood o = true := by decide +kernel
theorem XX_facts : XX = [120] := by decide +kernel
/-- what the rows are, ahead of the last -/
structure R3ok (R3 : List Rw) (told : Bool) (base : List (List Nat × PV)) (ps : Parts) (ch : List Nat) (us : List (List Nat × Nat)) : Prop where
  ok : ∀ r ∈ R3, r.ok
  row : ∀ r ∈ R3, RowOk (low r)
  pl : (pfold (R3.map low)).1 = base
  bs : base = [] ∨ base = [(B0, .str (cs "plain"))]
  no : told = false → (R3.map low).findSome? (sel 0) = none
  get : told = true → ∀ i (h : i < ps.length), (R3.map low).findSome? (sel i) = some (.tup [.bool ps[i].1, .bytes ps[i].2.1])
  stop : told = true → (R3.map low).findSome? (sel ps.length) = none
  ne : told = true → 0 < ps.length
  first : told = true → ∀ h : 0 < ps.length, FirstV ch ps[0].1 ps[0].2.1 ps[0].2.2
  rest : told = true → ∀ i (h : i < ps.length), 0 < i → PartV ps[i].1 ps[i].2.1 ps[i].2.2
  sz : told = true → ∀ p ∈ ps, p.2.1.length ≤ 100000 ∧ p.2.2.length ≤ 10000
  len : told = true → ps.length ≤ 50
  jo : told = true → joinOf ps = utxt us
  chs : told = true → ch ∈ CH3 ∨ ch = []
  sg : told = true → ∀ u ∈ us, Sg (if ch = [] then cs "utf-8" else ch) u.1 u.2
  zr : R3.length ≤ 100
  zt : ∀ r ∈ R3, r.txt.length ≤ 1000 ∧ ∀ c ∈ r.txt, c < 256

theorem sel_none {n : Int} {r : List Nat × List Nat} (h : partOf r.1 = none) : sel n r = none := by unfold sel; rw [h]
theorem find_snoc {α β : Type} {f : α → Option β} {l : List α} {x : α} (h : f x = none) : (l ++ [x]).findSome? f = l.findSome? f := by
  rw [List.findSome?_append, List.findSome?_cons, h]; simp
section
variable {G : Ctx} {L : Nat} {H : AHeap} {k : KV}
theorem c_rv {R3 : List Rw} {told : Bool} {base : List (List Nat × PV)} {ps : Parts} {ch : List Nat} {us : List (List Nat × Nat)} (R : R3ok R3 told base ps ch us) {o : List Nat} (ho : o ∈ ODDS)
    (h : ∀ L ep, H L = none → k (.tup [.str (cs "w"), .ref L]) (H.set L (.sdict (if told then sput (base ++ [(o.take (o.length - 2), .str (cs "x"))]) B0 (.str (us.map (·.2))) else base ++ [(o.take (o.length - 2), .str (cs "x"))]) ep))) :
    CallX G 1 (.ref 369) [.bytes ([119, 59, 32] ++ joinL [59, 32] (R3.map Rw.txt ++ [o]))] H k := by
  have G0 := odds_good o ho
  simp only [oddGood, Bool.and_eq_true, decide_eq_true_eq, List.all_eq_true] at G0
  obtain ⟨⟨⟨⟨⟨⟨⟨g1, g2⟩, g3⟩, g4⟩, g5⟩, g6⟩, g7⟩, g8⟩ := G0
  have okO : (oddR o).ok := ⟨g7, g6, .inr ⟨rfl, by show XX ≠ []; rw [XX_facts]; simp, by show ∀ c ∈ XX, _; rw [XX_facts]; simp; decide⟩⟩
  have etx : [119, 59, 32] ++ joinL [59, 32] (R3.map Rw.txt ++ [o]) = [119] ++ rtail (R3 ++ [oddR o]) := by
    rw [← join_tail (by simp), List.map_append, List.map_cons, g1]; rfl
  rw [etx]
  have ok : ∀ r ∈ R3 ++ [oddR o], r.ok := fun r hr => by
    rcases List.mem_append.mp hr with hr | hr
    · exact R.ok r hr
    · simp only [List.mem_singleton] at hr; rw [hr]; exact okO
  have RA := rows_at (p := [119]) ok
  have tz : (rtail (R3 ++ [oddR o])).length ≤ 200000 := by
    have key : ∀ rs : List Rw, (∀ r ∈ rs, r.txt.length ≤ 1000) → (rtail rs).length ≤ 1002 * rs.length := by
      intro rs
      induction rs with
      | nil => intro _; simp [rtail]
      | cons r t ih =>
        intro hh
        have a := ih fun x hx => hh x (.tail _ hx)
        have b := hh r (.head _)
        have c : (rtail (r :: t)).length = r.txt.length + 2 + (rtail t).length := by simp [rtail]; omega
        rw [c, List.length_cons]; omega
    have := key (R3 ++ [oddR o]) fun r hr => by
      rcases List.mem_append.mp hr with hr | hr
      · exact (R.zt r hr).1
      · simp only [List.mem_singleton] at hr; rw [hr, g1]; omega
    have z := R.zr
    rw [List.length_append] at this
    simp only [List.length_cons, List.length_nil] at this
    omega
  have tb : ∀ c ∈ [119] ++ rtail (R3 ++ [oddR o]), c < 256 := fun c hc => by
    rcases List.mem_append.mp hc with hc | hc
    · simp at hc; omega
    · obtain ⟨r, hr, hc⟩ := List.mem_flatMap.mp hc
      have : ∀ c ∈ r.txt, c < 256 := by
        rcases List.mem_append.mp hr with hr | hr
        · exact (R.zt r hr).2
        · simp only [List.mem_singleton] at hr; rw [hr, g1]; exact fun c hc => by simpa using g8 c hc
      simp only [List.mem_cons] at hc
      rcases hc with rfl | rfl | hc
      · omega
      · omega
      · exact this c hc
  have hd0 : pk ([119] ++ rtail (R3 ++ [oddR o])) 0 = 119 := rfl
  have hd1 : pk ([119] ++ rtail (R3 ++ [oddR o])) 1 = 59 := by
    cases R3 <;> rfl
  have dl : 2 ≤ ([119] ++ rtail (R3 ++ [oddR o])).length := by cases R3 <;> simp [rtail] <;> omega
  have er : ((R3 ++ [oddR o]).map fun r => (r.nm, r.v)).map (fun r => (r.1.map lowN, r.2)) = R3.map low ++ [low (oddR o)] := by
    rw [List.map_map, List.map_append]; rfl
  have e1 : (low (oddR o)).1 = o.take (o.length - 2) := g3
  have e2 : partOf (low (oddR o)).1 = none := g2
  have ef : ∀ n, iget (pfold (R3.map low ++ [low (oddR o)])).2 n = (R3.map low).findSome? (sel n) := fun n => by
    rw [pfold_iget, find_snoc (sel_none e2)]
  have eb : (pfold (R3.map low ++ [low (oddR o)])).1 = base ++ [(o.take (o.length - 2), .str (cs "x"))] := by
    have a : pfold (R3.map low ++ [low (oddR o)]) = pstep (pfold (R3.map low)) (low (oddR o)) := by unfold pfold; rw [List.foldl_append]; rfl
    have n0 : sget base (o.take (o.length - 2)) = none := by
      rcases R.bs with h | h
      · rw [h]; rfl
      · rw [h]; simp [sget, Ne.symm g4]
    rw [a, step_plain e2 (by rw [R.pl, e1]; exact n0), R.pl, e1]
    show sput base _ (.str XX) = _
    have n1 : base.any (fun p => decide (p.1 = o.take (o.length - 2))) = false := by
      rcases R.bs with h | h
      · rw [h]; rfl
      · rw [h]; simp [Ne.symm g4]
    unfold sput
    rw [n1]; rfl
  refine c_read_value (rows := (R3 ++ [oddR o]).map fun r => (r.nm, r.v)) (ps := ps) (ch := ch) (us := us) (by simp at tz ⊢; omega) (fun i hi => tb _ (List.getElem_mem hi)) (Run.nil (by omega) (by rw [hd0]; decide)) (by rw [hd0]; decide)
    ⟨by omega, by omega, fun i h1 h2 => by obtain rfl : i = 0 := by omega
                                           rw [hd0]; decide, by rw [hd1]; decide⟩ (Run.nil (by omega) (by rw [hd1]; decide)) (by rw [hd1]; decide) RA (by have := R.zr; simp; omega) ?_ ?_ ?_
  · intro r hr
    obtain ⟨y, hy, rfl⟩ := List.mem_map.mp hr
    rcases List.mem_append.mp hy with hy | hy
    · exact R.row y hy
    · simp only [List.mem_singleton] at hy
      subst hy
      refine ⟨fun _ => by show ∀ c ∈ XX, _; rw [XX_facts]; simp, fun b n e he => ?_, ?_, ?_, ?_⟩
      · exact absurd (e2.symm.trans he) (by simp)
      · show ((oddR o).nm.map lowN).length ≤ 1000; rw [g3]; simp; omega
      · show ∀ c ∈ (oddR o).nm.map lowN, c < 256; rw [g3]; exact fun c hc => by have := g8 c (List.mem_of_mem_take hc); simpa using this
      · show XX.length ≤ _; rw [XX_facts]; simp
  · rw [er, ef]
    intro hs
    cases told with
    | false => rw [R.no rfl] at hs; cases hs
    | true => exact ⟨⟨fun i hi => by rw [ef]; exact R.get rfl i hi, by rw [ef]; exact R.stop rfl, R.ne rfl, R.first rfl, R.rest rfl, R.sz rfl, R.len rfl⟩, R.jo rfl, R.chs rfl, R.sg rfl⟩
  · rw [er, ef, eb]
    intro L ep hL
    have ec : (cut ([119] ++ rtail (R3 ++ [oddR o])) 0 1).map lowN = cs "w" := by
      have : cut ([119] ++ rtail (R3 ++ [oddR o])) 0 1 = [119] := by simp [cut]
      rw [this]; decide +kernel
    rw [ec]
    have ei : ((R3.map low).findSome? (sel 0)).isSome = told := by
      cases told with
      | false => rw [R.no rfl]; rfl
      | true => have := R.get rfl 0 (R.ne rfl); rw [show ((0 : Nat) : Int) = 0 from rfl] at this; rw [this]; rfl
    rw [ei]
    exact h L ep hL
end

-- e4

noncomputable def TW : Rw := ⟨cs "name*0*", cs "utf-8''twice", cs "utf-8''twice"⟩
noncomputable def PLN : Rw := ⟨cs "Name", cs "plain", cs "plain"⟩
theorem TW_facts : partOf (low TW).1 = some (B0, 0, true) ∧ TW.nm.all (fun c => tokB (c : Int)) = true ∧ TW.nm ≠ [] ∧ TW.v ≠ [] ∧ TW.v.all (fun c => worthB (c : Int)) = true ∧ TW.txt.length ≤ 100 ∧ TW.txt.all (fun c => decide (c < 256)) = true ∧ (low TW).1.all (fun c => decide (c < 256)) = true ∧ TW.nm.length ≤ 100 ∧ TW.txt = cs "name*0*=utf-8''twice" := by decide +kernel
theorem PLN_facts : partOf (low PLN).1 = none ∧ PLN.nm.all (fun c => tokB (c : Int)) = true ∧ PLN.nm ≠ [] ∧ PLN.v ≠ [] ∧ PLN.v.all (fun c => worthB (c : Int)) = true ∧ PLN.txt.length ≤ 100 ∧ PLN.txt.all (fun c => decide (c < 256)) = true ∧ (low PLN).1.all (fun c => decide (c < 256)) = true ∧ PLN.nm.length ≤ 100 ∧ PLN.v.all (fun c => decide (c < 128)) = true ∧ (low PLN).1 = B0 ∧ PLN.txt = cs "Name=plain" := by decide +kernel
theorem all_of {p : Nat → Bool} {l : List Nat} (h : l.all p = true) : ∀ c ∈ l, p c = true := List.all_eq_true.mp h
theorem TW_ok : TW.ok := ⟨TW_facts.2.2.1, all_of TW_facts.2.1, .inr ⟨rfl, TW_facts.2.2.2.1, all_of TW_facts.2.2.2.2.1⟩⟩
theorem PLN_ok : PLN.ok := ⟨PLN_facts.2.2.1, all_of PLN_facts.2.1, .inr ⟨rfl, PLN_facts.2.2.2.1, all_of PLN_facts.2.2.2.2.1⟩⟩
theorem TW_row : RowOk (low TW) := ⟨fun h => (by rw [TW_facts.1] at h; cases h), fun b n e h => (by rw [TW_facts.1] at h; cases h; rfl), by show (TW.nm.map lowN).length ≤ 1000; have := TW_facts.2.2.2.2.2.2.2.2.1; simp; omega, fun c hc => by simpa using all_of TW_facts.2.2.2.2.2.2.2.1 c hc, by decide +kernel⟩
theorem PLN_row : RowOk (low PLN) := ⟨fun _ c hc => by simpa using all_of PLN_facts.2.2.2.2.2.2.2.2.2.1 c hc, fun b n e h => (by rw [PLN_facts.1] at h; cases h), by show (PLN.nm.map lowN).length ≤ 1000; have := PLN_facts.2.2.2.2.2.2.2.2.1; simp; omega, fun c hc => by simpa using all_of PLN_facts.2.2.2.2.2.2.2.1 c hc, by decide +kernel⟩

/-- the rows of the parts alone -/
structure PRok (R : List Rw) (told : Bool) (ps : Parts) (ch : List Nat) (us : List (List Nat × Nat)) : Prop where
  ok : ∀ r ∈ R, r.ok
  row : ∀ r ∈ R, RowOk (low r)
  part : ∀ r ∈ R, (partOf (low r).1).isSome = true
  uniq : ∀ n, ∀ r ∈ R, ∀ r' ∈ R, ∀ v v', sel n (low r) = some v → sel n (low r') = some v' → v = v'
  no : told = false → ∀ r ∈ R, sel 0 (low r) = none
  get : told = true → ∀ i (h : i < ps.length), ∃ r ∈ R, sel i (low r) = some (.tup [.bool ps[i].1, .bytes ps[i].2.1])
  stop : told = true → ∀ r ∈ R, sel ps.length (low r) = none
  ne : told = true → 0 < ps.length
  first : told = true → ∀ h : 0 < ps.length, FirstV ch ps[0].1 ps[0].2.1 ps[0].2.2
  rest : told = true → ∀ i (h : i < ps.length), 0 < i → PartV ps[i].1 ps[i].2.1 ps[i].2.2
  sz : told = true → ∀ p ∈ ps, p.2.1.length ≤ 100000 ∧ p.2.2.length ≤ 10000
  len : told = true → ps.length ≤ 50
  jo : told = true → joinOf ps = utxt us
  chs : told = true → ch ∈ CH3 ∨ ch = []
  sg : told = true → ∀ u ∈ us, Sg (if ch = [] then cs "utf-8" else ch) u.1 u.2
  zr : R.length ≤ 50
  zt : ∀ r ∈ R, r.txt.length ≤ 1000 ∧ ∀ c ∈ r.txt, c < 256
theorem PRok.rev {R : List Rw} {told : Bool} {ps : Parts} {ch : List Nat} {us : List (List Nat × Nat)} (h : PRok R told ps ch us) : PRok R.reverse told ps ch us where
  ok r hr := h.ok r (List.mem_reverse.mp hr)
  row r hr := h.row r (List.mem_reverse.mp hr)
  part r hr := h.part r (List.mem_reverse.mp hr)
  uniq n r hr r' hr' := h.uniq n r (List.mem_reverse.mp hr) r' (List.mem_reverse.mp hr')
  no t r hr := h.no t r (List.mem_reverse.mp hr)
  get t i hi := let ⟨r, a, b⟩ := h.get t i hi; ⟨r, List.mem_reverse.mpr a, b⟩
  stop t r hr := h.stop t r (List.mem_reverse.mp hr)
  ne := h.ne
  first := h.first
  rest := h.rest
  sz := h.sz
  len := h.len
  jo := h.jo
  chs := h.chs
  sg := h.sg
  zr := by simpa using h.zr
  zt r hr := h.zt r (List.mem_reverse.mp hr)

noncomputable def R2of (R : List Rw) (tw : Bool) : List Rw := R ++ (if tw then [TW] else [])
/-- where the plain row stands, if it does -/
noncomputable def R3of (R : List Rw) : Option Nat → List Rw
  | none => R
  | some j => R.take j ++ PLN :: R.drop j
noncomputable def baseOf : Option Nat → List (List Nat × PV)
  | none => []
  | some _ => [(B0, .str (cs "plain"))]
theorem mem_R2 {R : List Rw} {tw : Bool} {r : Rw} (h : r ∈ R2of R tw) : r ∈ R ∨ r = TW := by
  unfold R2of at h
  rcases List.mem_append.mp h with h | h
  · exact .inl h
  · cases tw
    · cases h
    · simp at h; exact .inr h
theorem mem_R3 {R : List Rw} {o : Option Nat} {r : Rw} (h : r ∈ R3of R o) : r ∈ R ∨ r = PLN := by
  cases o with
  | none => exact .inl h
  | some j =>
    rcases List.mem_append.mp h with h | h
    · exact .inl (List.mem_of_mem_take h)
    · rcases List.mem_cons.mp h with h | h
      · exact .inr h
      · exact .inl (List.mem_of_mem_drop h)
theorem R3_find {R : List Rw} {o : Option Nat} {n : Int} : ((R3of R o).map low).findSome? (sel n) = (R.map low).findSome? (sel n) := by
  cases o with
  | none => rfl
  | some j =>
    show ((R.take j ++ PLN :: R.drop j).map low).findSome? _ = _
    rw [List.map_append, List.map_cons, findSome_mid (sel_none PLN_facts.1), ← List.map_append, List.take_append_drop]
theorem PRok.all {R : List Rw} {told tw : Bool} {ps : Parts} {ch : List Nat} {us : List (List Nat × Nat)} (h : PRok R told ps ch us) (ht : tw = true → told = true) (o : Option Nat) : R3ok (R3of (R2of R tw) o) told (baseOf o) ps ch us := by
  have mem : ∀ {r : Rw}, r ∈ R3of (R2of R tw) o → r ∈ R ∨ r = TW ∨ r = PLN := fun hr => by
    rcases mem_R3 hr with hr | hr
    · rcases mem_R2 hr with hr | hr
      · exact .inl hr
      · exact .inr (.inl hr)
    · exact .inr (.inr hr)
  have fnd : ∀ n, ((R3of (R2of R tw) o).map low).findSome? (sel n) = ((R.map low).findSome? (sel n)).or (if tw then sel n (low TW) else none) := fun n => by
    rw [R3_find]
    unfold R2of
    rw [List.map_append, List.findSome?_append]
    cases tw <;> simp [List.findSome?_cons]
    cases sel n (low TW) <;> rfl
  have pl2 : ∀ r ∈ (R2of R tw).map low, (partOf r.1).isSome = true := fun r hr => by
    obtain ⟨y, hy, rfl⟩ := List.mem_map.mp hr
    rcases mem_R2 hy with hy | rfl
    · exact h.part y hy
    · rw [TW_facts.1]; rfl
  have nof : (∀ r ∈ R, sel 0 (low r) = none) → (R.map low).findSome? (sel 0) = none := fun hh => by
    rw [List.findSome?_eq_none_iff]
    intro r hr
    obtain ⟨y, hy, rfl⟩ := List.mem_map.mp hr
    exact hh y hy
  refine ⟨fun r hr => ?_, fun r hr => ?_, ?_, ?_, fun t => ?_, fun t i hi => ?_, fun t => ?_, h.ne, h.first, h.rest, h.sz, h.len, h.jo, h.chs, h.sg, ?_, fun r hr => ?_⟩
  · rcases mem hr with hr | rfl | rfl
    · exact h.ok r hr
    · exact TW_ok
    · exact PLN_ok
  · rcases mem hr with hr | rfl | rfl
    · exact h.row r hr
    · exact TW_row
    · exact PLN_row
  · cases o with
    | none => unfold pfold; rw [show R3of (R2of R tw) none = R2of R tw from rfl, fold_plain pl2]; rfl
    | some j =>
      show (pfold (((R2of R tw).take j ++ PLN :: (R2of R tw).drop j).map low)).1 = [(B0, .str (cs "plain"))]
      unfold pfold
      rw [List.map_append, List.map_cons, List.foldl_append, List.foldl_cons]
      have e1 : ((((R2of R tw).take j).map low).foldl pstep ([], [])).1 = [] := by
        rw [fold_plain fun r hr => pl2 r ?_]
        obtain ⟨y, hy, rfl⟩ := List.mem_map.mp hr
        exact List.mem_map_of_mem (List.mem_of_mem_take hy)
      rw [fold_plain fun r hr => pl2 r ?_, step_plain PLN_facts.1 (by rw [e1]; rfl), e1]
      · rw [PLN_facts.2.2.2.2.2.2.2.2.2.2.1]; rfl
      · obtain ⟨y, hy, rfl⟩ := List.mem_map.mp hr
        exact List.mem_map_of_mem (List.mem_of_mem_drop hy)
  · cases o
    · exact .inl rfl
    · exact .inr rfl
  · rw [fnd, nof (h.no t)]
    cases tw with
    | false => rfl
    | true => rw [ht rfl] at t; cases t
  · rw [fnd]
    obtain ⟨r, hr, e⟩ := h.get t i hi
    have : (R.map low).findSome? (sel i) = some (.tup [.bool ps[i].1, .bytes ps[i].2.1]) := by
      refine findSome_uniq ⟨low r, List.mem_map_of_mem hr, e⟩ fun x hx u hu => ?_
      obtain ⟨y, hy, rfl⟩ := List.mem_map.mp hx
      exact h.uniq i y hy r hr _ _ hu e
    rw [this]; rfl
  · rw [fnd]
    have : (R.map low).findSome? (sel ps.length) = none := by
      rw [List.findSome?_eq_none_iff]
      intro r hr
      obtain ⟨y, hy, rfl⟩ := List.mem_map.mp hr
      exact h.stop t y hy
    rw [this]
    have n0 := h.ne t
    have : sel ps.length (low TW) = none := by
      unfold sel; rw [TW_facts.1]; simp; omega
    rw [this]; cases tw <;> rfl
  · have z := h.zr
    have e : (R2of R tw).length ≤ 51 := by unfold R2of; cases tw <;> simp <;> omega
    cases o with
    | none => show (R2of R tw).length ≤ 100; omega
    | some j => show ((R2of R tw).take j ++ PLN :: (R2of R tw).drop j).length ≤ 100; simp; omega
  · rcases mem hr with hr | rfl | rfl
    · exact h.zt r hr
    · exact ⟨by have := TW_facts.2.2.2.2.2.1; omega, fun c hc => by simpa using all_of TW_facts.2.2.2.2.2.2.1 c hc⟩
    · exact ⟨by have := PLN_facts.2.2.2.2.2.1; omega, fun c hc => by simpa using all_of PLN_facts.2.2.2.2.2.2.1 c hc⟩

-- e5

theorem R2_len {R : List Rw} {tw : Bool} : (R2of R tw).length ≤ R.length + 1 := by
  unfold R2of; rw [List.length_append]; cases tw <;> exact Nat.add_le_add_left (by decide) _
section
variable {G : Ctx} {L : Nat} {H : AHeap} {k : KV}
theorem law_11 {ρ : Slots} {k : KF} {p q Lr : Addr} {n mis : Nat} {R : List Rw} {lone : Bool} {ps : Parts} {ch chr : List Nat} {us : List (List Nat × Nat)}
    (hn : n ≤ 90000) (L : LH H p q n Lr (R.map Rw.txt)) (hP : PRok R (decide (0 < mis)) ps chr us)
    (m1 : ρ 1 = some (.ref p)) (m2 : ρ 10 = some (.ref Lr)) (m4 : ρ 9 = some (.int mis)) (m5 : ρ 11 = some (.bytes (utxt us))) (m6 : ρ 3 = some (.str ch)) (m7 : ρ 5 = some (.bool lone))
    (zu : 0 < mis → (utxt us).length ≤ 1000 ∧ ∀ u ∈ us, Sg ch u.1 u.2)
    (hK : ∀ ρ H, k (.ret (.bool true)) ρ H) : XSs G 1 (b426.drop 11) ρ H k := by
  refine seqN 11 (fun ρ' H' => ∃ (Lr' : Addr) (n' : Nat) (R' : List Rw), n' ≤ 90010 ∧ LH H' p q n' Lr' (R'.map Rw.txt) ∧ PRok R' (decide (0 < mis)) ps chr us ∧ ρ' 1 = some (.ref p) ∧ ρ' 10 = some (.ref Lr') ∧
    ρ' 9 = some (.int mis) ∧ ρ' 11 = some (.bytes (utxt us)) ∧ ρ' 3 = some (.str ch) ∧ ρ' 5 = some (.bool lone)) ?_ ?_
  · clear m1 m2 m4 m5 m6 m7 L hP hn
    rintro ρ H ⟨Lr, n, R, hn, L, hP, m1, m2, m4, m5, m6, m7⟩
    have tb : (decide ((0 : Int) < (mis : Int))) = decide (0 < mis) := decide_eq_decide.mpr Int.ofNat_lt
    refine seqN 12 (fun ρ' H' => ρ' = ρ.put 16 (.bool (decide (0 < mis))) ∧ H' = H) ?_ (fun k' hk' => by
      repeat' (first | infer_instance | fail)
      refine hk' _ _ ?_
      rw [tb]; exact ⟨rfl, rfl⟩)
    rintro _ _ ⟨rfl, rfl⟩
    refine seqN 13 (fun ρ' H' => ∃ (n' : Nat) (tw : Bool), n' ≤ 90020 ∧ (tw = true → 0 < mis) ∧ LH H' p q n' Lr ((R2of R tw).map Rw.txt) ∧ ρ' 1 = some (.ref p) ∧ ρ' 10 = some (.ref Lr) ∧
      ρ' 16 = some (.bool (decide (0 < mis))) ∧ ρ' 11 = some (.bytes (utxt us)) ∧ ρ' 3 = some (.str ch)) ?_ ?_
    · clear m1 m2 m4 m5 m6 m7 L hn
      rintro ρ H ⟨n, tw, hn, htw, L, m1, m2, m4, m5, m6⟩
      refine seqN 14 (fun ρ' H' => ∃ Lp, LH H' p q n Lr ((R2of R tw).map Rw.txt) ∧ H' Lp = some (.sdict [] 0) ∧ ρ' = ρ.put 17 (.ref Lp)) ?_ (fun k' hk' => by
        refine s_new fun Lp hLp => ?_
        exact hk' _ _ ⟨Lp, L.new hLp, AHeap.set_same _ _ _, rfl⟩)
      clear L
      rintro _ H1 ⟨Lp, L1, hp1, rfl⟩
      refine seqN 15 (fun ρ' H' => ∃ (n' ep : Nat) (o : Option Nat), n' ≤ 90030 ∧ LH H' p q n' Lr ((R3of (R2of R tw) o).map Rw.txt) ∧ H' Lp = some (.sdict (baseOf o) ep) ∧ ρ' 1 = some (.ref p) ∧ ρ' 10 = some (.ref Lr) ∧ ρ' 17 = some (.ref Lp) ∧
        ρ' 16 = some (.bool (decide (0 < mis))) ∧ ρ' 11 = some (.bytes (utxt us)) ∧ ρ' 3 = some (.str ch)) ?_ ?_
      · rintro ρ' H' ⟨n', ep, o, hn', L', hp', a1, a2, a3, a4, a5, a6⟩
        have Ra := hP.all (tw := tw) (fun t => decide_eq_true (htw t)) o
        refine law_end (by omega) L' hp' (by cases o; exact .inl rfl; exact .inr rfl) a1 a2 a3 a4 a5 a6 ?_ ?_ (fun t => zu (of_decide_eq_true t)) ?_ hK
        · rw [List.length_map]; exact Ra.zr
        · intro r hr
          obtain ⟨y, hy, rfl⟩ := List.mem_map.mp hr
          exact (Ra.zt y hy).1
        · intro o' ho' H'' k'' hk''
          exact c_rv Ra ho' hk''
      · intro k' hk'
        repeat' (first | infer_instance | fail)
        refine c_draw (by omega) (by decide) L1.pot fun r H2 r0 r1 P2 ch2 => ?_
        have L2 := L1.draw P2 ch2
        have dd := L1.dict hp1
        have hp2 : H2 Lp = some (.sdict [] 0) := by rw [ch2 _ dd.1 dd.2.1]; exact hp1
        have h2r := L2.rows
        have rl : (((R2of R tw).map Rw.txt).map PV.bytes).length ≤ 51 := by rw [List.length_map, List.length_map]; exact Nat.le_trans R2_len (Nat.succ_le_succ hP.zr)
        repeat' (first | infer_instance | fail)
        · refine x_lenl h2r (Nat.le_trans rl (Nat.le_of_ble_eq_true rfl)) ?_
          repeat' (first | infer_instance | fail)
          refine c_draw (by omega) ⟨by omega, by omega⟩ L2.pot fun r' H3 r0' r1' P3 ch3 => ?_
          have L3 := L2.draw P3 ch3
          have d2 := L2.dict hp2
          have hp3 : H3 Lp = some (.sdict [] 0) := by rw [ch3 _ d2.1 d2.2.1]; exact hp2
          have h3r := L3.rows
          repeat' (first | infer_instance | fail)
          refine x_insert (v := .bytes PLN.txt) h3r ⟨Nat.le_trans rl (Nat.le_of_ble_eq_true rfl), r0', Int.le_of_lt_add_one r1'⟩ ?_
          have el : List.take r'.toNat (List.map PV.bytes ((R2of R tw).map Rw.txt)) ++ PV.bytes PLN.txt :: List.drop r'.toNat (List.map PV.bytes ((R2of R tw).map Rw.txt)) = ((R3of (R2of R tw) (some r'.toNat)).map Rw.txt).map PV.bytes := by
            simp only [R3of, List.map_append, List.map_cons, List.map_take, List.map_drop]
          rw [el]
          have L4 := L3.set (rows' := (R3of (R2of R tw) (some r'.toNat)).map Rw.txt)
          have d3 := L3.dict hp3
          have hp4 : (H3.set Lr (.list (((R3of (R2of R tw) (some r'.toNat)).map Rw.txt).map .bytes))) Lp = some (.sdict [] 0) := by rw [AHeap.set_other d3.2.2]; exact hp3
          generalize H3.set Lr (.list (((R3of (R2of R tw) (some r'.toNat)).map Rw.txt).map .bytes)) = H4 at L4 hp4 ⊢
          repeat' (first | infer_instance | fail)
          refine p_setsd hp4 (Nat.zero_le _) fun ep5 => ?_
          have d4 := L4.dict hp4
          exact hk' _ _ ⟨n + 1 + 1, ep5, some r'.toNat, by omega, L4.other d4.1 d4.2.1 d4.2.2, AHeap.set_same _ _ _, m1, m2, rfl, m4, m5, m6⟩
        · exact hk' _ _ ⟨n + 1, 0, none, by omega, L2, hp2, m1, m2, rfl, m4, m5, m6⟩
    · intro k' hk'
      have rl := hP.zr
      repeat' (first | infer_instance | fail)
      refine c_draw (by omega) (by decide) L.pot fun r H2 r0 r1 P2 ch2 => ?_
      have L2 := L.draw P2 ch2
      have h2r := L2.rows
      have stay : k' .next (ρ.put 16 (.bool (decide (0 < mis)))) H2 := hk' _ _ ⟨n + 1, false, by omega, (fun t => nomatch t), by rw [show R2of R false = R from List.append_nil R]; exact L2, m1, m2, rfl, m5, m6⟩
      by_cases t : 0 < mis
      · cases lone with
        | true =>
          repeat' (first | infer_instance | fail)
          all_goals exact stay
        | false =>
          repeat' (first | infer_instance | fail)
          · refine x_append (v := .bytes TW.txt) h2r (by rw [List.length_map, List.length_map]; omega) ?_
            rw [show (R.map Rw.txt).map PV.bytes ++ [PV.bytes TW.txt] = ((R2of R true).map Rw.txt).map PV.bytes by unfold R2of; rw [List.map_append, List.map_append]; rfl]
            exact hk' _ _ ⟨n + 1, true, by omega, (fun _ => t), L2.set, m1, m2, rfl, m5, m6⟩
          · exact stay
      · skip
        repeat' (first | infer_instance | fail)
        all_goals exact stay
  · intro k' hk'
    repeat' (first | infer_instance | fail)
    refine c_draw (by omega) (by decide) L.pot fun r H2 r0 r1 P2 ch2 => ?_
    have L2 := L.draw P2 ch2
    have h2r := L2.rows
    have rl := hP.zr
    repeat' (first | infer_instance | fail)
    · refine p_rev h2r (by rw [List.length_map, List.length_map]; omega) fun Lr' hLr' => ?_
      have nn := L2.pot.new hLr'
      have L3 : LH (H2.set Lr' (.list (R.reverse.map Rw.txt |>.map .bytes))) p q (n + 1) Lr' (R.reverse.map Rw.txt) := ⟨L2.pot.set nn.1 nn.2, AHeap.set_same _ _ _, nn.1, nn.2⟩
      rw [show ((R.map Rw.txt).map PV.bytes).reverse = (R.reverse.map Rw.txt).map PV.bytes by rw [List.map_reverse, List.map_reverse]]
      exact hk' _ _ ⟨Lr', n + 1, R.reverse, by omega, L3, hP.rev, m1, rfl, m4, m5, m6, m7⟩
    · exact hk' _ _ ⟨Lr, n + 1, R, by omega, L2, hP, m1, m2, m4, m5, m6, m7⟩
end

-- e6

abbrev Pcs := List (List (List Nat × Nat))
noncomputable def nmOf (lone : Bool) (i : Nat) (en : Bool) : List Nat := [110, 97, 109, 101, 42] ++ (if lone then [] else [48 + i]) ++ (if en && !lone then [42] else [])
noncomputable def qt (en : Bool) (w : List Nat) : List Nat := if en then (if w = [] then [34, 34] else w) else 34 :: (w ++ [34])
noncomputable def rwOf (lone : Bool) (e : (Bool × List Nat × List Nat) × Nat) : Rw := ⟨nmOf lone e.2 e.1.1, qt e.1.1 e.1.2.1, e.1.2.1⟩
noncomputable def rowsOf (lone : Bool) (mis : Nat) (ps : Parts) : List Rw := (ps.zipIdx.filter fun e => decide (e.2 ≠ mis)).map (rwOf lone)
noncomputable def nmGood (lone : Bool) (i : Nat) (en : Bool) : Bool := decide (partOf ((nmOf lone i en).map lowN) = some (B0, (i : Int), en)) && (nmOf lone i en).all (fun c => tokB (c : Int)) && decide (nmOf lone i en ≠ []) && decide ((nmOf lone i en).length ≤ 10) && (nmOf lone i en).all (fun c => decide (c < 256)) && ((nmOf lone i en).map lowN).all (fun c => decide (c < 256))
theorem nm_good : ∀ i : Fin 9, ∀ lone en : Bool, (lone = true → i.val = 0 ∧ en = true) → nmGood lone i.val en = true := by decide +kernel
theorem rowsOf_snoc {lone : Bool} {mis : Nat} {ps : Parts} {x : Bool × List Nat × List Nat} : rowsOf lone mis (ps ++ [x]) = rowsOf lone mis ps ++ (if ps.length = mis then [] else [rwOf lone (x, ps.length)]) := by
  unfold rowsOf
  rw [List.zipIdx_append, List.filter_append, List.map_append]
  congr 1
  simp only [List.zipIdx_cons, List.zipIdx_nil, Nat.zero_add]
  by_cases h : ps.length = mis
  · simp [h]
  · simp [h]

structure PartG (told : List Nat) (lone bey : Bool) (pcs : Pcs) (i : Nat) (p : Bool × List Nat × List Nat) : Prop where
  lt : i < pcs.length
  val : p.2.2 = utxt (pcs.getD i [])
  first : i = 0 → FirstV (if p.1 then csn told else []) p.1 p.2.1 p.2.2
  rest : 0 < i → PartV p.1 p.2.1 p.2.2
  enc : p.1 = true → ∀ c ∈ p.2.1, tokB (c : Int) = true ∧ c < 256
  raw : p.1 = false → lone = false ∧ bey = false ∧ ∀ c ∈ p.2.1, (c ≠ 34 ∧ plainIn c) ∧ c < 256
  sz : p.2.1.length ≤ 200 ∧ p.2.2.length ≤ 24
theorem qt_len {en : Bool} {w : List Nat} : (qt en w).length ≤ w.length + 2 := by unfold qt; split <;> (try split) <;> simp_all
theorem rw_good {told : List Nat} {lone bey : Bool} {pcs : Pcs} {i : Nat} {p : Bool × List Nat × List Nat} (G : PartG told lone bey pcs i p) (hp : pcs.length ≤ 9) (hlo : lone = true → pcs.length = 1) :
    (rwOf lone (p, i)).ok ∧ RowOk (low (rwOf lone (p, i))) ∧ partOf (low (rwOf lone (p, i))).1 = some (B0, (i : Int), p.1) ∧ (rwOf lone (p, i)).txt.length ≤ 1000 ∧ ∀ c ∈ (rwOf lone (p, i)).txt, c < 256 := by
  obtain ⟨en, w, v⟩ := p
  have lt := G.lt
  have hl : lone = true → i = 0 ∧ en = true := fun h => ⟨by have := hlo h; omega, by
    cases en with
    | true => rfl
    | false => have := (G.raw rfl).1; rw [h] at this; cases this⟩
  have N := nm_good ⟨i, by omega⟩ lone en hl
  simp only [nmGood, Bool.and_eq_true, decide_eq_true_eq, List.all_eq_true] at N
  obtain ⟨⟨⟨⟨⟨n1, n2⟩, n3⟩, n4⟩, n5⟩, n6⟩ := N
  have sz := G.sz
  dsimp only at sz
  have ql := @qt_len en w
  refine ⟨⟨n3, n2, ?_⟩, ⟨fun h => ?_, fun b n e h => ?_, ?_, ?_, ?_⟩, n1, ?_, ?_⟩
  · cases en with
    | true =>
      show (qt true w = _ ∧ _) ∨ (qt true w = w ∧ _)
      unfold qt
      by_cases h : w = []
      · subst h; exact .inl ⟨rfl, by intro c hc; cases hc⟩
      · rw [if_pos rfl, if_neg h]; exact .inr ⟨rfl, h, fun c hc => by unfold worthB; rw [(G.enc rfl c hc).1]; simp⟩
    | false => exact .inl ⟨rfl, fun c hc => ((G.raw rfl).2.2 c hc).1⟩
  · have h' : partOf ((nmOf lone i en).map lowN) = none := h
    rw [n1] at h'; cases h'
  · have h' : partOf ((nmOf lone i en).map lowN) = some (b, n, e) := h
    rw [n1] at h'; cases h'; rfl
  · show ((nmOf lone i en).map lowN).length ≤ 1000; simp; omega
  · exact fun c hc => n6 c hc
  · show w.length ≤ 1000000; omega
  · show (nmOf lone i en ++ 61 :: qt en w).length ≤ 1000; simp; omega
  · have hw : ∀ c ∈ w, c < 256 := fun c hc => by
      cases en with
      | true => exact (G.enc rfl c hc).2
      | false => exact ((G.raw rfl).2.2 c hc).2
    show ∀ c ∈ nmOf lone i en ++ 61 :: qt en w, c < 256
    intro c hc
    rcases List.mem_append.mp hc with hc | hc
    · exact n5 c hc
    · rcases List.mem_cons.mp hc with rfl | hc
      · omega
      · unfold qt at hc
        split at hc
        · split at hc
          · simp at hc; omega
          · exact hw c hc
        · simp only [List.mem_cons, List.mem_append, List.not_mem_nil, or_false] at hc
          rcases hc with rfl | hc | rfl
          · omega
          · exact hw c hc
          · omega

theorem mem_rows {lone : Bool} {mis : Nat} {ps : Parts} {r : Rw} (h : r ∈ rowsOf lone mis ps) : ∃ i, ∃ h : i < ps.length, i ≠ mis ∧ r = rwOf lone (ps[i], i) := by
  unfold rowsOf at h
  obtain ⟨⟨p, i⟩, he, rfl⟩ := List.mem_map.mp h
  rw [List.mem_filter] at he
  obtain ⟨h1, h2⟩ := he
  have := List.mem_zipIdx_iff_getElem?.mp h1
  dsimp only at this
  obtain ⟨hi, e⟩ := List.getElem?_eq_some_iff.mp this
  exact ⟨i, hi, by simpa using h2, by rw [e]⟩
theorem rows_mem {lone : Bool} {mis : Nat} {ps : Parts} {i : Nat} (h : i < ps.length) (hm : i ≠ mis) : rwOf lone (ps[i], i) ∈ rowsOf lone mis ps := by
  unfold rowsOf
  refine List.mem_map_of_mem (List.mem_filter.mpr ⟨List.mem_zipIdx_iff_getElem?.mpr ?_, by simpa using hm⟩)
  simp [h]

noncomputable def chOf (ch : List Nat) (ps : Parts) : List Nat := match ps with
  | (false, _, _) :: _ => cs "utf-8"
  | _ => ch
noncomputable def CHL : List (List Nat × List Nat) := [(cs "utf-8", cs "utf-8"), (cs "UTF8", cs "utf-8"), (cs "ISO-8859-1", cs "iso-8859-1"), (cs "us-ascii", cs "us-ascii"), (cs "x-none", cs "utf-8"), (cs "", cs "utf-8")]
noncomputable def chGood (e : List Nat × List Nat) : Bool := e.1.all (fun c => tokB (c : Int) && decide (c < 256) && decide (c ≠ 39)) && decide ((if csn e.1 = [] then cs "utf-8" else csn e.1) = e.2) && (decide (csn e.1 ∈ [cs "us-ascii", cs "iso-8859-1", cs "utf-8"]) || decide (csn e.1 = [])) && decide (e.1.length ≤ 20)
theorem ch_good : ∀ e ∈ CHL, chGood e = true := by decide +kernel
theorem sg_low {ch bs : List Nat} {c : Nat} (h : Sg ch bs c) (hb : ∀ b ∈ bs, b ≤ 127) : Sg (cs "utf-8") bs c := by
  rcases h with ⟨_, h⟩ | ⟨_, _, rfl⟩ | ⟨_, _, rfl⟩
  · exact .inl ⟨rfl, h⟩
  · exact .inl ⟨rfl, .one (by have := hb c (.head _); omega)⟩
  · exact .inl ⟨rfl, .one (by omega)⟩

theorem join_parts {told : List Nat} {lone bey : Bool} {pcs : Pcs} : ∀ (n : Nat) {ps : Parts}, (∀ i (h : i < ps.length), PartG told lone bey pcs i ps[i]) → n ≤ ps.length → joinOf (ps.take n) = utxt (pcs.take n).flatten
  | 0, _, _, _ => rfl
  | n + 1, ps, h, hn => by
    have lt : n < ps.length := by omega
    rw [joinOf_take lt, join_parts n h (by omega), (h n lt).val]
    have hl := (h n lt).lt
    have e : pcs.take (n + 1) = pcs.take n ++ [pcs[n]] := by rw [List.take_add_one, List.getElem?_eq_getElem hl]; rfl
    have e2 : pcs.getD n [] = pcs[n] := by simp [List.getD, List.getElem?_eq_getElem hl]
    rw [e, e2, List.flatten_append]
    unfold utxt
    rw [List.flatMap_append]
    congr 1
    rw [List.flatten_cons, List.flatten_nil, List.append_nil]

theorem parts_ok {told ch : List Nat} {lone bey : Bool} {pcs : Pcs} {ps : Parts} {mis : Nat} (hc : (told, ch) ∈ CHL) (hl : ps.length = pcs.length) (h0 : 0 < pcs.length) (hp : pcs.length ≤ 9) (hlo : lone = true → pcs.length = 1)
    (hg : ∀ i (h : i < ps.length), PartG told lone bey pcs i ps[i]) (hu : ∀ pc ∈ pcs, ∀ u ∈ pc, Sg ch u.1 u.2) (hb : bey = false → ∀ pc ∈ pcs, ∀ u ∈ pc, ∀ b ∈ u.1, b ≤ 127) :
    ∃ chr, PRok (rowsOf lone mis ps) (decide (0 < mis)) (ps.take mis) chr (pcs.take mis).flatten ∧ ∀ u ∈ (pcs.take mis).flatten, Sg (chOf ch ps) u.1 u.2 := by
  have G := ch_good _ hc
  simp only [chGood, Bool.and_eq_true, Bool.or_eq_true, decide_eq_true_eq, List.all_eq_true] at G
  obtain ⟨⟨⟨g1, g2⟩, g3⟩, g4⟩ := G
  have z0 : 0 < ps.length := by omega
  have hps : ps = ps[0] :: ps.drop 1 := by rw [← List.drop_eq_getElem_cons z0]; rfl
  have um : ∀ u ∈ (pcs.take mis).flatten, ∃ pc ∈ pcs, u ∈ pc := fun u hu' => by
    obtain ⟨pc, h1, h2⟩ := List.mem_flatten.mp hu'
    exact ⟨pc, List.mem_of_mem_take h1, h2⟩
  have selr : ∀ i (h : i < ps.length) (n : Int), sel n (low (rwOf lone (ps[i], i))) = if (i : Int) = n then some (.tup [.bool ps[i].1, .bytes ps[i].2.1]) else none := fun i h n => by
    unfold sel; rw [(rw_good (hg i h) hp hlo).2.2.1]; rfl
  have rlen : (rowsOf lone mis ps).length ≤ ps.length := by
    unfold rowsOf
    rw [List.length_map]
    exact Nat.le_trans (List.length_filter_le _ _) (by simp)
  refine ⟨if ps[0].1 then csn told else [], ⟨fun r hr => ?_, fun r hr => ?_, fun r hr => ?_, fun n r hr r' hr' v v' e e' => ?_, fun t r hr => ?_, fun t i hi => ?_, fun t r hr => ?_, fun t => ?_, fun t h => ?_, fun t i h hi => ?_, fun t p hp' => ?_, fun t => ?_, fun t => ?_, fun t => ?_, fun t u hu' => ?_, by omega, fun r hr => ?_⟩, fun u hu' => ?_⟩
  · obtain ⟨i, h, _, rfl⟩ := mem_rows hr; exact (rw_good (hg i h) hp hlo).1
  · obtain ⟨i, h, _, rfl⟩ := mem_rows hr; exact (rw_good (hg i h) hp hlo).2.1
  · obtain ⟨i, h, _, rfl⟩ := mem_rows hr; rw [(rw_good (hg i h) hp hlo).2.2.1]; rfl
  · obtain ⟨i, h, _, rfl⟩ := mem_rows hr
    obtain ⟨j, h', _, rfl⟩ := mem_rows hr'
    rw [selr i h] at e
    rw [selr j h'] at e'
    split at e <;> split at e' <;> try contradiction
    obtain rfl : i = j := by omega
    cases e; cases e'; rfl
  · obtain ⟨i, h, hm, rfl⟩ := mem_rows hr
    have m0 : mis = 0 := by simpa using t
    rw [selr i h, if_neg (by omega)]
  · rw [List.length_take] at hi
    refine ⟨_, rows_mem (i := i) (by omega) (by omega), ?_⟩
    rw [selr i (by omega), if_pos rfl]
    simp
  · obtain ⟨i, h, hm, rfl⟩ := mem_rows hr
    rw [List.length_take, selr i h, if_neg (by omega)]
  · rw [List.length_take]; have : 0 < mis := by simpa using t
    omega
  · have := (hg 0 z0).first rfl
    simpa using this
  · rw [List.length_take] at h
    have := (hg i (by omega)).rest hi
    simpa using this
  · obtain ⟨i, h, rfl⟩ := List.getElem_of_mem (List.mem_of_mem_take hp')
    have := (hg i h).sz
    exact ⟨by omega, by omega⟩
  · rw [List.length_take]; omega
  · have a := join_parts (told := told) (lone := lone) (bey := bey) (pcs := pcs) (min mis ps.length) hg (by omega)
    have e1 : ps.take (min mis ps.length) = ps.take mis := by
      rcases Nat.le_total mis ps.length with h | h
      · rw [Nat.min_eq_left h]
      · rw [Nat.min_eq_right h, List.take_length, List.take_of_length_le h]
    have e2 : pcs.take (min mis ps.length) = pcs.take mis := by
      rw [hl]
      rcases Nat.le_total mis pcs.length with h | h
      · rw [Nat.min_eq_left h]
      · rw [Nat.min_eq_right h, List.take_length, List.take_of_length_le h]
    rw [e1, e2] at a; exact a
  · cases ps[0].1
    · exact .inr rfl
    · exact g3
  · obtain ⟨pc, h1, h2⟩ := um u hu'
    cases he : ps[0].1 with
    | true =>
      rw [if_pos rfl, g2]; exact hu pc h1 u h2
    | false =>
      have := ((hg 0 z0).raw he).2.1
      rw [if_neg Bool.false_ne_true, if_pos rfl]
      exact sg_low (hu pc h1 u h2) (hb this pc h1 u h2)
  · obtain ⟨i, h, _, rfl⟩ := mem_rows hr; exact (rw_good (hg i h) hp hlo).2.2.2
  · obtain ⟨pc, h1, h2⟩ := um u hu'
    rw [hps]
    generalize hq : ps[0] = p0 at *
    obtain ⟨en, w, v⟩ := p0
    cases en with
    | true => exact hu pc h1 u h2
    | false =>
      have := ((hg 0 z0).raw (by rw [hq])).2.1
      exact sg_low (hu pc h1 u h2) (hb this pc h1 u h2)

-- e7

structure Lf (ρ : Slots) (p Lr Lq : Addr) (told : List Nat) (lone bey : Bool) (mis : Nat) : Prop where
  a1 : ρ 1 = some (.ref p)
  a2 : ρ 2 = some (.str told)
  a3 : ρ 5 = some (.bool lone)
  a4 : ρ 6 = some (.ref Lq)
  a5 : ρ 8 = some (.bool bey)
  a6 : ρ 9 = some (.int mis)
  a7 : ρ 10 = some (.ref Lr)
noncomputable def pcl (pcs : Pcs) : List PV := pcs.map fun u => .bytes (utxt u)
structure HF (H : AHeap) (p q : Addr) (n : Nat) (Lr : Addr) (rows : List (List Nat)) (Lq : Addr) (pcs : Pcs) : Prop where
  L : LH H p q n Lr rows
  pc : H Lq = some (.list (pcl pcs))
  n1 : Lq ≠ p
  n2 : Lq ≠ q
  n3 : Lq ≠ Lr
section
variable {H H' : AHeap} {p q : Addr} {n n' : Nat} {Lr : Addr} {rows rows' : List (List Nat)} {Lq : Addr} {pcs : Pcs}
theorem HF.draw (h : HF H p q n Lr rows Lq pcs) (P : Pot H' p q n') (c : PotCh H H' p q) : HF H' p q n' Lr rows Lq pcs :=
  ⟨h.L.draw P c, by rw [c _ h.n1 h.n2]; exact h.pc, h.n1, h.n2, h.n3⟩
theorem HF.potle (h : HF H p q n Lr rows Lq pcs) (P : Pot H' p q n') (c : PotLe H H' p q) : HF H' p q n' Lr rows Lq pcs :=
  ⟨⟨P, c _ _ h.L.n1 h.L.n2 h.L.rows, h.L.n1, h.L.n2⟩, c _ _ h.n1 h.n2 h.pc, h.n1, h.n2, h.n3⟩
theorem HF.new {a : Addr} {o : AObj} (h : HF H p q n Lr rows Lq pcs) (e : H a = none) : HF (H.set a o) p q n Lr rows Lq pcs :=
  ⟨h.L.new e, by rw [AHeap.set_other (fun z => by rw [← z, h.pc] at e; cases e)]; exact h.pc, h.n1, h.n2, h.n3⟩
theorem HF.row (h : HF H p q n Lr rows Lq pcs) : HF (H.set Lr (.list (rows'.map .bytes))) p q n Lr rows' Lq pcs :=
  ⟨h.L.set, by rw [AHeap.set_other h.n3]; exact h.pc, h.n1, h.n2, h.n3⟩
theorem HF.mono (h : HF H p q n Lr rows Lq pcs) (z : n ≤ n') : HF H p q n' Lr rows Lq pcs := ⟨⟨h.L.pot.mono z, h.L.rows, h.L.n1, h.L.n2⟩, h.pc, h.n1, h.n2, h.n3⟩
end
noncomputable def ordP : PV → PV
  | .str [c] => .int c
  | p => p
theorem cast_map (l : List Nat) : (l.map fun (c : Nat) => (c : Int)).map Int.toNat = l := by induction l <;> simp_all
theorem good_tok {u : PU} (h : u.good) : ∀ c ∈ u.txt, tokB (c : Int) = true ∧ c < 256 := by
  have key : ∀ c : Fin 128, (97 ≤ c.val ∧ c.val ≤ 122 ∨ 48 ≤ c.val ∧ c.val ≤ 57 ∨ 65 ≤ c.val ∧ c.val ≤ 70 ∨ 97 ≤ c.val ∧ c.val ≤ 102 ∨ c.val = 37) → tokB (c.val : Int) = true := by decide +kernel
  have key2 : ∀ c : Nat, (97 ≤ c ∧ c ≤ 122 ∨ 48 ≤ c ∧ c ≤ 57 ∨ 65 ≤ c ∧ c ≤ 70 ∨ 97 ≤ c ∧ c ≤ 102 ∨ c = 37) → tokB (c : Int) = true ∧ c < 256 := fun c hc => ⟨key ⟨c, by omega⟩ hc, by omega⟩
  cases u with
  | lit c => intro d hd; simp only [PU.txt, List.mem_singleton] at hd; subst hd; exact key2 _ (.inl h)
  | hex a b =>
    intro d hd
    simp only [PU.txt, List.mem_cons, List.not_mem_nil, or_false] at hd
    have h1 := h.2.2.1
    have h2 := h.2.2.2
    rcases hd with rfl | rfl | rfl
    · exact key2 _ (by omega)
    · exact key2 _ (by omega)
    · exact key2 _ (by omega)
theorem ptxt_tok {us : List PU} (h : ∀ u ∈ us, u.good) : ∀ c ∈ ptxt us, tokB (c : Int) = true ∧ c < 256 := fun c hc => by
  obtain ⟨u, hu, hc⟩ := List.mem_flatMap.mp hc
  exact good_tok (h u hu) c hc
/-- what is known of the drawn pieces -/
structure PcsOk (ch : List Nat) (lone bey : Bool) (pcs : Pcs) : Prop where
  hp : pcs.length ≤ 9
  h0 : 0 < pcs.length
  hlo : lone = true → pcs.length = 1
  sg : ∀ pc ∈ pcs, ∀ u ∈ pc, Sg ch u.1 u.2
  oct : ∀ pc ∈ pcs, ∀ c ∈ utxt pc, c < 256 ∧ c ≠ 34 ∧ plainIn c
  by_ : bey = false → ∀ pc ∈ pcs, ∀ u ∈ pc, ∀ b ∈ u.1, b ≤ 127
  len : ∀ pc ∈ pcs, (utxt pc).length ≤ 24
  tot : (utxt pcs.flatten).length ≤ 1000

theorem seqC {G : Ctx} {L : Nat} {ρ : Slots} {H : AHeap} {k : KF} {b : RSs} (n : Nat) (J : Slots → AHeap → Prop) (h2 : ∀ ρ H, J ρ H → XSs G L (b.drop (n + 1)) ρ H k) (h1 : ∀ k' : KF, (∀ ρ H, J ρ H → k' .next ρ H) → (∀ ρ H, k .cont ρ H → k' .cont ρ H) → XS G L (b.hd n) ρ H k') (e : b.drop n = .cons (b.hd n) (b.drop (n + 1)) := by rfl) : XSs G L (b.drop n) ρ H k := by
  rw [e]; exact h1 _ h2 fun _ _ h => h
noncomputable def lawTurn : RSs := match b426.drop 10 with
  | .cons (.fr _ _ a) _ => a
  | _ => .nil
section
variable {G : Ctx} {L : Nat} {H : AHeap} {k : KV}
/-- a turn of the law's loop over the pieces -/
theorem law_turn {ρ : Slots} {k : KF} {p q Lr Lq : Addr} {n mis a : Nat} {lone bey : Bool} {ps : Parts} {told ch : List Nat} {pcs : Pcs} (hc : (told, ch) ∈ CHL) (C : PcsOk ch lone bey pcs)
    (hn : n ≤ 80000) (F : Lf ρ p Lr Lq told lone bey mis) (hh : HF H p q n Lr ((rowsOf lone mis ps).map Rw.txt) Lq pcs) (ha : a < pcs.length) (hps : ps.length = a) (hat : ρ 12 = some (.int a))
    (md : ρ 11 = some (.bytes (utxt (pcs.take (min a mis)).flatten))) (mc : ρ 3 = some (.str (chOf ch ps)))
    (hk : ∀ fl ρ' H' (x : Bool × List Nat × List Nat), (fl = .next ∨ fl = .cont) → PartG told lone bey pcs a x → Lf ρ' p Lr Lq told lone bey mis → HF H' p q (n + 60) Lr ((rowsOf lone mis (ps ++ [x])).map Rw.txt) Lq pcs →
      ρ' 11 = some (.bytes (utxt (pcs.take (min (a + 1) mis)).flatten)) → ρ' 3 = some (.str (chOf ch (ps ++ [x]))) → k fl ρ' H') :
    XSs G 1 (lawTurn.drop 0) ρ H k := by
  have pcm : pcs[a] ∈ pcs := List.getElem_mem ha
  have pb := C.oct _ pcm
  have pl := C.len _ pcm
  have hp9 := C.hp
  have pclen : (pcl pcs).length = pcs.length := List.length_map _
  have pa : ∀ {Q : KV} {H : AHeap}, H Lq = some (.list (pcl pcs)) → Q (.bytes (utxt pcs[a])) H → itemW (.ref Lq) (.int a) H Q := fun {Q H} e h =>
    p_litem e ⟨by omega, Int.natCast_nonneg _, by rw [pclen]; exact Int.ofNat_lt.mpr ha⟩ (by rw [Int.toNat_natCast, pcl, List.getD_eq_getElem?_getD, List.getElem?_map, List.getElem?_eq_getElem ha]; exact h)
  -- is_encoded
  refine seqN 0 (fun ρ' H' => ∃ (en : Bool), (en = false → lone = false ∧ bey = false) ∧ HF H' p q (n + 1) Lr ((rowsOf lone mis ps).map Rw.txt) Lq pcs ∧ ρ' = ρ.put 13 (.bool en)) ?_ (fun k' hk' => by
    obtain ⟨a1, a2, a3, a4, a5, a6, a7⟩ := F
    cases lone with
    | true =>
      repeat' (first | infer_instance | fail)
      exact hk' _ _ ⟨true, (fun t => nomatch t), hh.mono (Nat.le_succ _), rfl⟩
    | false =>
      cases bey with
      | true =>
        repeat' (first | infer_instance | fail)
        exact hk' _ _ ⟨true, (fun t => nomatch t), hh.mono (Nat.le_succ _), rfl⟩
      | false =>
        repeat' (first | infer_instance | fail)
        refine c_draw (by omega) (by decide) hh.L.pot fun r H2 r0 r1 P2 ch2 => ?_
        refine hk' _ _ ?_
        exact ⟨_, fun _ => ⟨rfl, rfl⟩, hh.draw P2 ch2, rfl⟩)
  rintro _ H1 ⟨en, hen, hh1, rfl⟩
  -- name
  refine seqN 1 (fun ρ' H' => HF H' p q (n + 1) Lr ((rowsOf lone mis ps).map Rw.txt) Lq pcs ∧ ρ' = (ρ.put 13 (.bool en)).put 14 (.bytes (nmOf lone a en))) ?_ (fun k' hk' => by
    obtain ⟨a1, a2, a3, a4, a5, a6, a7⟩ := F
    have g : ∀ Y H', Y = nmOf lone a en → HF H' p q (n + 1) Lr ((rowsOf lone mis ps).map Rw.txt) Lq pcs → k' .next ((ρ.put 13 (.bool en)).put 14 (.bytes Y)) H' := fun Y H' e h => hk' _ _ ⟨h, by rw [e]⟩
    clear hk' hk
    cases lone with
    | true =>
      cases en with
      | false => exact absurd (hen rfl).1 (by decide)
      | true =>
        repeat' (first | infer_instance | fail)
        refine p_cat (Nat.le_of_ble_eq_true rfl) ?_
        repeat' (first | infer_instance | fail)
        refine p_cat (Nat.le_of_ble_eq_true rfl) ?_
        exact g _ _ rfl hh1
    | false =>
      cases en
      all_goals
        repeat' (first | infer_instance | fail)
        refine s_new fun La hLa => ?_
        repeat' (first | infer_instance | fail)
        refine x_byte (c := 48 + a) (AHeap.set_same _ _ _) (by omega) ?_
        refine p_cat (Nat.le_of_ble_eq_true rfl) ?_
        repeat' (first | infer_instance | fail)
        refine p_cat (Nat.le_of_ble_eq_true rfl) ?_
        exact g _ _ rfl (hh1.new hLa))
  rintro _ H2 ⟨hh2, rfl⟩
  -- worth
  refine seqN 2 (fun ρ' H' => ∃ W, HF H' p q (n + 50) Lr ((rowsOf lone mis ps).map Rw.txt) Lq pcs ∧ (en = true → ∃ us : List PU, (∀ u ∈ us, u.good) ∧ us.map PU.val = utxt pcs[a] ∧ W = ptxt us) ∧ (en = false → W = 34 :: (utxt pcs[a] ++ [34])) ∧
      ρ' = ((ρ.put 13 (.bool en)).put 14 (.bytes (nmOf lone a en))).put 15 (.bytes W)) ?_ (fun k' hk' => by
    obtain ⟨a1, a2, a3, a4, a5, a6, a7⟩ := F
    have hpc := hh2.pc
    cases en with
    | true =>
      repeat' (first | infer_instance | fail)
      refine pa hpc ?_
      refine c_law_percent (by omega) (by omega) (fun c hc => (pb c hc).1) hh2.L.pot fun us H' g1 g2 P' le => ?_
      refine hk' _ _ ?_
      exact ⟨ptxt us, (hh2.potle P' le).mono (by omega), fun _ => ⟨us, g1, g2, rfl⟩, (fun t => nomatch t), rfl⟩
    | false =>
      repeat' (first | infer_instance | fail)
      refine pa hpc ?_
      refine c_law_quoted (by omega) (fun c hc => ⟨(pb c hc).1, (pb c hc).2.1, (pb c hc).2.2.1⟩) ?_
      refine hk' _ _ ?_
      exact ⟨_, hh2.mono (by omega), (fun t => nomatch t), fun _ => rfl, rfl⟩)
  rintro _ H3 ⟨W, hh3, hW1, hW2, rfl⟩
  have F3 : Lf (((ρ.put 13 (.bool en)).put 14 (.bytes (nmOf lone a en))).put 15 (.bytes W)) p Lr Lq told lone bey mis := ⟨F.a1, F.a2, F.a3, F.a4, F.a5, F.a6, F.a7⟩
  have G0 := ch_good _ hc
  simp only [chGood, Bool.and_eq_true, Bool.or_eq_true, decide_eq_true_eq, List.all_eq_true] at G0
  obtain ⟨⟨⟨g1, g2⟩, g3⟩, g4⟩ := G0
  -- the head of the first part
  refine seqN 3 (fun ρ' H' => ∃ x : Bool × List Nat × List Nat, x.1 = en ∧ PartG told lone bey pcs a x ∧ HF H' p q (n + 55) Lr ((rowsOf lone mis ps).map Rw.txt) Lq pcs ∧ Lf ρ' p Lr Lq told lone bey mis ∧
      ρ' 15 = some (.bytes (if en then x.2.1 else 34 :: (x.2.1 ++ [34]))) ∧ ρ' 14 = some (.bytes (nmOf lone a en)) ∧ ρ' 13 = some (.bool en) ∧ ρ' 12 = some (.int a) ∧
      ρ' 11 = some (.bytes (utxt (pcs.take (min a mis)).flatten)) ∧ ρ' 3 = some (.str (chOf ch ps))) ?_ (fun k' hk' => by
    have valA : utxt pcs[a] = utxt (pcs.getD a []) := by rw [List.getD_eq_getElem?_getD, List.getElem?_eq_getElem ha]; rfl
    cases en with
    | false =>
      have hen' := hen rfl
      have G0 : PartG told lone bey pcs a (false, utxt pcs[a], utxt pcs[a]) := ⟨ha, valA, fun _ => .raw _, fun _ => .raw _, (fun t => nomatch t), fun _ => ⟨hen'.1, hen'.2, fun c hc => ⟨⟨(pb c hc).2.1, (pb c hc).2.2⟩, (pb c hc).1⟩⟩, by show (utxt pcs[a]).length ≤ 200; omega, pl⟩
      have res := hk' _ _ ⟨(false, utxt pcs[a], utxt pcs[a]), rfl, G0, hh3.mono (by omega), F3, by rw [hW2 rfl]; rfl, rfl, rfl, hat, md, mc⟩
      repeat' (first | infer_instance | fail)
      all_goals exact res
    | true =>
      obtain ⟨us, u1, u2, u3⟩ := hW1 rfl
      subst u3
      have ut := ptxt_tok u1
      have ul := @ptxt_le us
      have ul2 : us.length = (utxt pcs[a]).length := by rw [← u2, List.length_map]
      have uok : ∀ u ∈ us, u.ok := fun u hu => (u1 u hu).ok
      obtain ⟨a1, a2, a3, a4, a5, a6, a7⟩ := F
      by_cases a0 : a = 0
      · have a00 : (a : Int) = 0 := by rw [a0]; rfl
        repeat' (first | infer_instance | fail)
        refine i_str ⟨by omega, fun c hc => by have := (g1 c hc).1.2; omega⟩ (comp_map ordP trivial ?_ (by rw [List.length_map]; omega) fun ρ' => ?_)
        · intro x hx r' k' hk'
          obtain ⟨c, hc, rfl⟩ := List.mem_map.mp hx
          exact x_ord hk'
        refine s_new fun La hLa => ?_
        have hh4 := hh3.new (o := .list ((told.map fun c => PV.str [c]).map ordP)) hLa
        refine x_bytes (ns := told.map fun (c : Nat) => (c : Int)) (AHeap.set_same _ _ _) ?_ ⟨by rw [List.length_map, List.length_map]; omega, fun x hx => ?_⟩ ?_
        · rw [← intsOf_map, List.map_map, List.map_map]; rfl
        · obtain ⟨c, hc, rfl⟩ := List.mem_map.mp hx; have := (g1 c hc).1.2; omega
        rw [cast_map]
        generalize (H3.set La (.list ((told.map fun c => PV.str [c]).map ordP))) = H4 at hh4 ⊢
        refine s_new fun Lb hLb => ?_
        have hh5 := hh4.new (o := .list [.bytes [39, 39], .bytes [39, 101, 110, 39]]) hLb
        have hb1 : (H4.set Lb (.list [.bytes [39, 39], .bytes [39, 101, 110, 39]])) Lb = some (.list [.bytes [39, 39], .bytes [39, 101, 110, 39]]) := AHeap.set_same _ _ _
        have nb := hh4.L.pot.new hLb
        refine (?_ : fSub1 _ _ _ (H4.set Lb (.list [.bytes [39, 39], .bytes [39, 101, 110, 39]])))
        generalize (H4.set Lb (.list [.bytes [39, 39], .bytes [39, 101, 110, 39]])) = H5 at hh5 hb1 ⊢
        repeat' (first | infer_instance | fail)
        refine c_draw (by omega) (by decide) hh5.L.pot fun r H6 r0 r1 P6 ch6 => ?_
        have hh6 := hh5.draw P6 ch6
        have hb6 : H6 Lb = some (.list [.bytes [39, 39], .bytes [39, 101, 110, 39]]) := by rw [ch6 _ nb.1 nb.2]; exact hb1
        refine p_litem hb6 ⟨Nat.le_of_ble_eq_true rfl, r0, r1⟩ ?_
        obtain ⟨Bq, hB, hB2, hB3⟩ : ∃ Bq : List Nat, ([.bytes [39, 39], .bytes [39, 101, 110, 39]] : List PV).getD r.toNat .none = .bytes (39 :: (Bq ++ [39])) ∧ 39 ∉ Bq ∧ (∀ c ∈ Bq, tokB (c : Int) = true ∧ c < 256) ∧ Bq.length ≤ 2 := by
          have : r = 0 ∨ r = 1 := by omega
          rcases this with rfl | rfl
          · exact ⟨[], rfl, (fun h => nomatch h), (fun c h => nomatch h), Nat.zero_le _⟩
          · exact ⟨[101, 110], rfl, by decide, by decide, Nat.le_refl _⟩
        rw [hB]
        have cb : told.length + (39 :: (Bq ++ [39])).length ≤ 30 := by rw [List.length_cons, List.length_append, List.length_cons, List.length_nil]; omega
        refine p_cat (by omega) ?_
        repeat' (first | infer_instance | fail)
        refine p_cat (by rw [List.length_append]; omega) ?_
        have tk : tokB ((39 : Nat) : Int) = true := by decide +kernel
        have eW : (told ++ 39 :: (Bq ++ 39 :: ptxt us)) = told ++ 39 :: (Bq ++ [39]) ++ ptxt us := by rw [List.append_assoc, List.cons_append, List.append_assoc]; rfl
        refine hk' _ _ ?_
        refine ⟨(true, told ++ 39 :: (Bq ++ 39 :: ptxt us), us.map PU.val), rfl, ⟨ha, by rw [u2]; exact valA, fun _ => ?_, fun h => by omega, fun _ c hc => ?_, (fun t => nomatch t), ?_, ?_⟩, hh6.mono (by omega), ⟨a1, a2, a3, a4, a5, a6, a7⟩, ?_, rfl, rfl, hat, md, mc⟩
        · exact .enc told Bq us (fun h => (g1 _ h).2 rfl) hB2 (fun c hc => (g1 c hc).1.2) uok
        · simp only [List.mem_append, List.mem_cons] at hc
          rcases hc with hc | rfl | hc | rfl | hc
          · exact (g1 c hc).1
          · exact ⟨tk, by omega⟩
          · exact hB3.1 c hc
          · exact ⟨tk, by omega⟩
          · exact ut c hc
        · rw [eW, List.length_append, List.length_append]; omega
        · show (us.map PU.val).length ≤ 24; rw [u2]; exact pl
        · rw [if_pos rfl, eW]; rfl
      · have a00 : ¬ (a : Int) = 0 := nat_ne a0
        have res := hk' _ _ ⟨(true, ptxt us, us.map PU.val), rfl, ⟨ha, by rw [u2]; exact valA, fun h => absurd h a0, fun _ => .enc us uok, fun _ => ut, (fun t => nomatch t), by show (ptxt us).length ≤ 200; omega, by show (us.map PU.val).length ≤ 24; rw [u2]; exact pl⟩, hh3.mono (by omega), F3, rfl, rfl, rfl, hat, md, mc⟩
        repeat' (first | infer_instance | fail)
        exact res)
  clear F F3 hh hh1 hh2 hh3 md mc hat hW1 hW2
  rintro ρ H4 ⟨x, rfl, GX, hh4, F4, w1, w2, w3, hat, md, mc⟩
  -- the charset
  refine seqN 4 (fun ρ' H' => H' = H4 ∧ Lf ρ' p Lr Lq told lone bey mis ∧ ρ' 15 = some (.bytes (if x.1 then x.2.1 else 34 :: (x.2.1 ++ [34]))) ∧ ρ' 14 = some (.bytes (nmOf lone a x.1)) ∧ ρ' 12 = some (.int a) ∧
      ρ' 11 = some (.bytes (utxt (pcs.take (min a mis)).flatten)) ∧ ρ' 3 = some (.str (chOf ch (ps ++ [x])))) ?_ (fun k' hk' => by
    obtain ⟨en, w, v⟩ := x
    dsimp only at w1 w2 w3 ⊢
    by_cases a0 : a = 0
    · have a00 : (a : Int) = 0 := by rw [a0]; rfl
      have p0 : ps = [] := List.length_eq_zero_iff.mp (hps.trans a0)
      subst p0
      cases en with
      | true =>
        have res := hk' _ _ ⟨rfl, F4, w1, w2, hat, md, mc⟩
        repeat' (first | infer_instance | fail)
        exact res
      | false =>
        have res := hk' (ρ.put 3 (.str (cs "utf-8"))) _ ⟨rfl, ⟨F4.a1, F4.a2, F4.a3, F4.a4, F4.a5, F4.a6, F4.a7⟩, w1, w2, hat, md, rfl⟩
        repeat' (first | infer_instance | fail)
        exact res
    · have a00 : ¬ (a : Int) = 0 := nat_ne a0
      have ec : chOf ch (ps ++ [(en, w, v)]) = chOf ch ps := by
        cases ps with
        | nil => exact absurd hps.symm a0
        | cons y r => obtain ⟨b, y⟩ := y; cases b <;> rfl
      rw [← ec] at mc
      have res := hk' _ _ ⟨rfl, F4, w1, w2, hat, md, mc⟩
      repeat' (first | infer_instance | fail)
      all_goals exact res)
  clear F4 w1 w2 w3 hat md mc
  rintro ρ H4 ⟨rfl, F, w1, w2, hat, md, mc⟩
  have Fk := F
  obtain ⟨a1, a2, a3, a4, a5, a6, a7⟩ := F
  have szx := GX.sz
  have nml : (nmOf lone a x.1).length ≤ 7 := by
    have h1 : ∀ b : Bool, (if b then ([] : List Nat) else [48 + a]).length ≤ 1 := fun b => by cases b <;> first | exact Nat.le_refl _ | exact Nat.zero_le _
    have h2 : ∀ b c : Bool, (if b && !c then [42] else ([] : List Nat)).length ≤ 1 := by decide
    have h1 := h1 lone
    have h2 := h2 x.1 lone
    unfold nmOf
    rw [List.length_append, List.length_append]
    simp only [List.length_cons, List.length_nil] at h1 h2 ⊢
    omega
  have wl : (if x.1 then x.2.1 else 34 :: (x.2.1 ++ [34])).length ≤ 202 := by
    split
    · omega
    · rw [List.length_cons, List.length_append, List.length_cons, List.length_nil]; omega
  have hr4 := hh4.L.rows
  have rl : (((rowsOf lone mis ps).map Rw.txt).map PV.bytes).length ≤ 9 := by
    rw [List.length_map, List.length_map]
    unfold rowsOf; rw [List.length_map]
    exact Nat.le_trans (List.length_filter_le _ _) (by rw [List.length_zipIdx]; omega)
  have dl : (utxt (pcs.take (min a mis)).flatten).length ≤ 1000 := by
    have h1 := C.tot
    have : pcs.flatten = (pcs.take (min a mis)).flatten ++ (pcs.drop (min a mis)).flatten := by rw [← List.flatten_append, List.take_append_drop]
    rw [this, utxt_app, List.length_append] at h1
    omega
  have dnext : ∀ h : a < mis, utxt (pcs.take (min a mis)).flatten ++ utxt pcs[a] = utxt (pcs.take (min (a + 1) mis)).flatten := fun h => by
    rw [Nat.min_eq_left (Nat.le_of_lt h), Nat.min_eq_left h, List.take_add_one, List.getElem?_eq_getElem ha, List.flatten_append, utxt_app]
    show _ = _ ++ utxt (pcs[a] ++ [])
    rw [List.append_nil]
  refine seqC 5 (fun ρ' H' => ρ' = ρ ∧ H' = H4 ∧ ¬ a = mis) ?_ (fun k' hk1 hk2 => by
    by_cases q : a = mis
    · have q' : (a : Int) = mis := by rw [q]
      have res := hk2 _ _ (hk .cont ρ H4 x (.inr rfl) GX Fk (by rw [rowsOf_snoc, if_pos (hps.trans q), List.append_nil]; exact hh4.mono (by omega)) (by rw [md, show min a mis = min (a + 1) mis by omega]) mc)
      repeat' (first | infer_instance | fail)
      exact res
    · have q' : ¬ (a : Int) = mis := nat_ne q
      have res := hk1 ρ H4 ⟨rfl, rfl, q⟩
      repeat' (first | infer_instance | fail)
      exact res)
  rintro ρ H4 ⟨rfl, rfl, nm⟩
  have erow : rowsOf lone mis (ps ++ [x]) = rowsOf lone mis ps ++ [rwOf lone (x, a)] := by rw [rowsOf_snoc, if_neg (fun z => nm (hps.symm.trans z)), hps]
  refine seqN 6 (fun ρ' H' => ρ' = ρ ∧ HF H' p q (n + 55) Lr ((rowsOf lone mis (ps ++ [x])).map Rw.txt) Lq pcs) ?_ (fun k' hk' => by
    have app : ∀ Y, Y = qt x.1 x.2.1 → k' .next ρ (H4.set Lr (.list (((rowsOf lone mis ps).map Rw.txt).map .bytes ++ [.bytes (nmOf lone a x.1 ++ [61] ++ Y)]))) := fun Y e => by
      refine hk' _ _ ⟨rfl, ?_⟩
      have et : nmOf lone a x.1 ++ [61] ++ Y = (rwOf lone (x, a)).txt := by rw [e, List.append_assoc]; rfl
      rw [et, erow, show ((rowsOf lone mis ps).map Rw.txt).map PV.bytes ++ [PV.bytes (rwOf lone (x, a)).txt] = ((rowsOf lone mis ps ++ [rwOf lone (x, a)]).map Rw.txt).map PV.bytes by rw [List.map_append, List.map_append]; rfl]
      exact hh4.row
    repeat' (first | infer_instance | fail)
    refine p_cat (b := [61]) (Nat.le_trans (Nat.add_le_add_right nml 1) (Nat.le_of_ble_eq_true rfl)) ?_
    repeat' (first | infer_instance | fail)
    refine p_tby (by omega) ?_
    have nl : (nmOf lone a x.1 ++ [61]).length ≤ 8 := by rw [List.length_append]; exact Nat.succ_le_succ nml
    refine br_nz (fun hz => ?_) (fun hz => ?_)
    · skip
      repeat' (first | infer_instance | fail)
      refine p_cat (by omega) ?_
      repeat' (first | infer_instance | fail)
      refine x_append hr4 (by omega) ?_
      refine app _ ?_
      unfold qt
      cases he : x.1 with
      | true =>
        rw [he] at hz
        rw [if_pos rfl, if_pos rfl, if_neg]
        intro h0; rw [if_pos rfl, h0] at hz; exact hz rfl
      | false => rfl
    · refine p_cat (b := [34, 34]) (by show _ + 2 ≤ _; omega) ?_
      repeat' (first | infer_instance | fail)
      refine x_append hr4 (by omega) ?_
      refine app _ ?_
      unfold qt
      cases he : x.1 with
      | true =>
        rw [he, if_pos rfl] at hz
        have h0 : x.2.1 = [] := List.length_eq_zero_iff.mp hz
        rw [if_pos rfl, if_pos h0]
      | false =>
        rw [he, if_neg (by decide)] at hz
        cases hz)
  rintro ρ H5 ⟨rfl, hh5⟩
  have hpc5 := hh5.pc
  by_cases q : a < mis
  · have q' : (a : Int) < mis := Int.ofNat_lt.mpr q
    repeat' (first | infer_instance | fail)
    refine pa hpc5 ?_
    refine p_cat (by omega) ?_
    rw [dnext q]
    exact hk .next (ρ.put 11 (.bytes (utxt (pcs.take (min (a + 1) mis)).flatten))) _ x (.inl rfl) GX ⟨a1, a2, a3, a4, a5, a6, a7⟩ (hh5.mono (by omega)) rfl mc
  · have q' : ¬ (a : Int) < mis := fun z => q (Int.ofNat_lt.mp z)
    have res := hk .next ρ _ x (.inl rfl) GX Fk (hh5.mono (by omega)) (by rw [md, show min a mis = min (a + 1) mis by omega]) mc
    repeat' (first | infer_instance | fail)
    exact res
end

-- e8

section
variable {G : Ctx} {L : Nat} {H : AHeap} {k : KV}
theorem law_10 {ρ : Slots} {k : KF} {p q Lr Lq : Addr} {n mis : Nat} {lone bey : Bool} {told ch : List Nat} {pcs : Pcs} (hc : (told, ch) ∈ CHL) (C : PcsOk ch lone bey pcs)
    (hn : n ≤ 70000) (F : Lf ρ p Lr Lq told lone bey mis) (hh : HF H p q n Lr [] Lq pcs) (md : ρ 11 = some (.bytes [])) (mc : ρ 3 = some (.str ch))
    (hK : ∀ ρ H, k (.ret (.bool true)) ρ H) : XSs G 1 (b426.drop 10) ρ H k := by
  have a4 := F.a4
  have hpc := hh.pc
  have hp9 := C.hp
  have pclen : (pcl pcs).length = pcs.length := List.length_map _
  repeat' (first | infer_instance | fail)
  refine x_lenl hpc (by omega) ?_
  repeat' (first | infer_instance | fail)
  rw [pclen]
  refine i_rng (a := 0) (b := pcs.length) (xs := (List.range pcs.length).map fun (i : Nat) => PV.int i) (by rw [Int.sub_zero, Int.toNat_natCast]; exact List.map_congr_left fun i _ => by rw [Int.zero_add]) (by omega) ?_
  refine for_gen (fun rest ρ' H' => ∃ (a : Nat) (ps : Parts) (n' : Nat), a ≤ pcs.length ∧ rest = ((List.range pcs.length).drop a).map (fun (i : Nat) => PV.int i) ∧ ps.length = a ∧ (∀ i (h : i < ps.length), PartG told lone bey pcs i ps[i]) ∧ n' ≤ n + 60 * a ∧ Lf ρ' p Lr Lq told lone bey mis ∧
    HF H' p q n' Lr ((rowsOf lone mis ps).map Rw.txt) Lq pcs ∧ ρ' 11 = some (.bytes (utxt (pcs.take (min a mis)).flatten)) ∧ ρ' 3 = some (.str (chOf ch ps))) ?_ ?_ _ _ _
    ⟨0, [], n, Nat.zero_le _, rfl, rfl, fun i h => absurd h (Nat.not_lt_zero _), Nat.le_refl _, F, hh, by rw [Nat.zero_min]; exact md, mc⟩
  · rintro ρ' H' ⟨a, ps, n', ha, hr, hps, hg, hn', F', hh', md', mc'⟩
    have ea : a = pcs.length := by
      have := congrArg List.length hr
      rw [List.length_map, List.length_drop, List.length_range, List.length_nil] at this
      omega
    subst ea
    obtain ⟨chr, PR, sg⟩ := parts_ok (mis := mis) hc hps C.h0 C.hp C.hlo hg C.sg C.by_
    have e2 : pcs.take (min pcs.length mis) = pcs.take mis := by
      rcases Nat.le_total mis pcs.length with h | h
      · rw [Nat.min_eq_right h]
      · rw [Nat.min_eq_left h, List.take_length, List.take_of_length_le h]
    rw [e2] at md'
    have dl : (utxt (pcs.take mis).flatten).length ≤ 1000 := by
      have h1 := C.tot
      have : pcs.flatten = (pcs.take mis).flatten ++ (pcs.drop mis).flatten := by rw [← List.flatten_append, List.take_append_drop]
      rw [this, utxt_app, List.length_append] at h1
      omega
    exact law_11 (by omega) hh'.L PR F'.a1 F'.a7 F'.a6 md' mc' F'.a3 (fun _ => ⟨dl, sg⟩) hK
  · rintro x xs ρ' H' ⟨a, ps, n', ha, hr, hps, hg, hn', F', hh', md', mc'⟩ k' hk'
    have lt : a < pcs.length := by
      rcases Nat.lt_or_ge a pcs.length with h | h
      · exact h
      · rw [List.drop_eq_nil_of_le (by rw [List.length_range]; exact h)] at hr; cases hr
    have hdr : (List.range pcs.length).drop a = a :: (List.range pcs.length).drop (a + 1) := by
      rw [List.drop_eq_getElem_cons (by rw [List.length_range]; exact lt), List.getElem_range]
    rw [hdr, List.map_cons, List.cons.injEq] at hr
    obtain ⟨rfl, rfl⟩ := hr
    refine (?_ : XSs G 1 (lawTurn.drop 0) (ρ'.put 12 (.int a)) H' k')
    refine law_turn hc C (by omega) ⟨F'.a1, F'.a2, F'.a3, F'.a4, F'.a5, F'.a6, F'.a7⟩ hh' lt hps rfl md' mc' ?_
    intro fl ρ'' H'' x hfl GX F'' hh'' md'' mc''
    have J : ∃ (a' : Nat) (ps' : Parts) (n'' : Nat), a' ≤ pcs.length ∧ ((List.range pcs.length).drop (a + 1)).map (fun (i : Nat) => PV.int i) = ((List.range pcs.length).drop a').map (fun (i : Nat) => PV.int i) ∧ ps'.length = a' ∧ (∀ i (h : i < ps'.length), PartG told lone bey pcs i ps'[i]) ∧ n'' ≤ n + 60 * a' ∧ Lf ρ'' p Lr Lq told lone bey mis ∧
        HF H'' p q n'' Lr ((rowsOf lone mis ps').map Rw.txt) Lq pcs ∧ ρ'' 11 = some (.bytes (utxt (pcs.take (min a' mis)).flatten)) ∧ ρ'' 3 = some (.str (chOf ch ps')) := by
      refine ⟨a + 1, ps ++ [x], n' + 60, lt, rfl, by rw [List.length_append, hps]; rfl, fun i h => ?_, by omega, F'', hh'', md'', mc''⟩
      rcases Nat.lt_or_ge i ps.length with h1 | h1
      · rw [List.getElem_append_left h1]; exact hg i h1
      · have : i = ps.length := by rw [List.length_append, List.length_cons, List.length_nil] at h; omega
        subst this
        simp only [List.getElem_append_right (Nat.le_refl _), Nat.sub_self, List.getElem_cons_zero]
        rw [hps]; exact GX
    rcases hfl with rfl | rfl
    · exact hk' .next _ _ ⟨trivial, J⟩
    · exact hk' .cont _ _ ⟨trivial, J⟩

theorem law_7 {ρ : Slots} {k : KF} {p q Lq : Addr} {n : Nat} {lone bey : Bool} {told ch : List Nat} {pcs : Pcs} (hc : (told, ch) ∈ CHL) (C : PcsOk ch lone bey pcs)
    (hn : n ≤ 60000) (hp : Pot H p q n) (hpc : H Lq = some (.list (pcl pcs))) (n1 : Lq ≠ p) (n2 : Lq ≠ q)
    (m1 : ρ 1 = some (.ref p)) (m2 : ρ 2 = some (.str told)) (m3 : ρ 5 = some (.bool lone)) (m4 : ρ 6 = some (.ref Lq)) (m5 : ρ 8 = some (.bool bey)) (mc : ρ 3 = some (.str ch))
    (hK : ∀ ρ H, k (.ret (.bool true)) ρ H) : XSs G 1 (b426.drop 7) ρ H k := by
  have hp9 := C.hp
  have pclen : (pcl pcs).length = pcs.length := List.length_map _
  refine seqN 7 (fun ρ' H' => ∃ mis : Nat, Pot H' p q (n + 1) ∧ H' Lq = some (.list (pcl pcs)) ∧ ρ' = ρ.put 9 (.int mis)) ?_ (fun k' hk' => by
    repeat' (first | infer_instance | fail)
    refine x_lenl hpc (by omega) ?_
    refine p_mul ⟨by decide, by decide⟩ ?_
    repeat' (first | infer_instance | fail)
    refine c_draw (by omega) ⟨by omega, by omega⟩ hp fun r H2 r0 r1 P2 ch2 => ?_
    obtain ⟨j, rfl⟩ := Int.eq_ofNat_of_zero_le r0
    refine hk' _ _ ?_
    exact ⟨j, P2, by rw [ch2 _ n1 n2]; exact hpc, rfl⟩)
  clear hp hpc
  rintro _ H ⟨mis, hp, hpc, rfl⟩
  refine seqN 8 (fun ρ' H' => ∃ Lr, HF H' p q (n + 1) Lr [] Lq pcs ∧ ρ' = (ρ.put 9 (.int mis)).put 10 (.ref Lr)) ?_ (fun k' hk' => by
    refine s_new fun Lr hLr => ?_
    have nn := hp.new hLr
    have ne : Lq ≠ Lr := fun z => (by rw [← z, hpc] at hLr; cases hLr)
    refine hk' _ _ ?_
    exact ⟨Lr, ⟨⟨hp.set nn.1 nn.2, AHeap.set_same _ _ _, nn.1, nn.2⟩, by rw [AHeap.set_other ne]; exact hpc, n1, n2, ne⟩, rfl⟩)
  clear hp hpc
  rintro _ H ⟨Lr, hh, rfl⟩
  exact law_10 (ρ := ((ρ.put 9 (.int mis)).put 10 (.ref Lr)).put 11 (.bytes [])) (mis := mis) hc C (by omega) ⟨m1, m2, m3, m4, m5, rfl, rfl⟩ hh rfl mc hK
end

-- e9

theorem signs_eq : SIGNS = [97, 98, 32, 37, 50, 53, 39, 42, 101, 233, 8226] := by decide +kernel
noncomputable def decSign (ch : List Nat) (s : Nat) : Nat := if s < 128 then s else if ch = cs "iso-8859-1" ∧ s < 256 then s else if ch ≠ cs "utf-8" then 63 else s
noncomputable def Ub (ch : List Nat) (u : List Nat × Nat) : Prop := Sg ch u.1 u.2 ∧ (∀ b ∈ u.1, b < 256 ∧ b ≠ 34 ∧ plainIn b) ∧ u.1.length ≤ 3
theorem sign_tab : (encSign (cs "utf-8") 233 = [195, 169] ∧ decSign (cs "utf-8") 233 = 233) ∧ (encSign (cs "iso-8859-1") 233 = [233] ∧ decSign (cs "iso-8859-1") 233 = 233) ∧ (encSign (cs "us-ascii") 233 = [63] ∧ decSign (cs "us-ascii") 233 = 63) ∧
    (encSign (cs "utf-8") 8226 = [226, 128, 162] ∧ decSign (cs "utf-8") 8226 = 8226) ∧ (encSign (cs "iso-8859-1") 8226 = [63] ∧ decSign (cs "iso-8859-1") 8226 = 63) ∧ (encSign (cs "us-ascii") 8226 = [63] ∧ decSign (cs "us-ascii") 8226 = 63) := by decide +kernel
noncomputable def plainB (b : Nat) : Bool := decide (b < 256 ∧ b ≠ 34 ∧ (b ≠ 92 ∧ b ≠ 0 ∧ b ≠ 10 ∧ b ≠ 13))
theorem plain_all {l : List Nat} (h : l.all plainB = true) : ∀ b ∈ l, b < 256 ∧ b ≠ 34 ∧ plainIn b := fun b hb => of_decide_eq_true (p := b < 256 ∧ b ≠ 34 ∧ (b ≠ 92 ∧ b ≠ 0 ∧ b ≠ 10 ∧ b ≠ 13)) (List.all_eq_true.mp h b hb)
theorem ub_ascii {ch : List Nat} (hc : ch ∈ CH3) {c : Nat} (h : c < 128) (h2 : plainB c = true) : Ub ch ([c], c) := by
  refine ⟨?_, plain_all (by rw [List.all_cons, h2]; rfl), Nat.le_of_ble_eq_true rfl⟩
  rcases List.mem_cons.mp hc with rfl | hc
  · exact .inr (.inr ⟨rfl, h, rfl⟩)
  rcases List.mem_cons.mp hc with rfl | hc
  · exact .inr (.inl ⟨rfl, Nat.lt_trans h (by decide), rfl⟩)
  rw [List.mem_singleton.mp hc]
  exact .inl ⟨rfl, .one h⟩
theorem sign_cases {s : Nat} (hs : s ∈ SIGNS) : s < 128 ∧ plainB s = true ∨ s = 233 ∨ s = 8226 := by
  rw [signs_eq] at hs
  have := List.all_eq_true.mp (show ([97, 98, 32, 37, 50, 53, 39, 42, 101, 233, 8226] : List Nat).all (fun s => (Nat.blt s 128 && plainB s) || Nat.beq s 233 || Nat.beq s 8226) = true by rfl) s hs
  rcases Bool.or_eq_true_iff.mp this with h | h
  · rcases Bool.or_eq_true_iff.mp h with h | h
    · exact .inl ⟨Nat.le_of_ble_eq_true (and2 h).1, (and2 h).2⟩
    · exact .inr (.inl (Nat.eq_of_beq_eq_true h))
  · exact .inr (.inr (Nat.eq_of_beq_eq_true h))
theorem sign_ub {ch : List Nat} (hc : ch ∈ CH3) {s : Nat} (hs : s ∈ SIGNS) : Ub ch (encSign ch s, decSign ch s) := by
  obtain ⟨⟨t1, t2⟩, ⟨t3, t4⟩, ⟨t5, t6⟩, ⟨t7, t8⟩, ⟨t9, t10⟩, ⟨t11, t12⟩⟩ := sign_tab
  have q63 : Ub ch ([63], 63) := ub_ascii hc (by decide) rfl
  rcases sign_cases hs with ⟨h, hp⟩ | rfl | rfl
  · rw [show encSign ch s = [s] from if_pos h, show decSign ch s = s from if_pos h]
    exact ub_ascii hc h hp
  · rcases List.mem_cons.mp hc with rfl | hc
    · rw [t5, t6]; exact q63
    rcases List.mem_cons.mp hc with rfl | hc
    · rw [t3, t4]; exact ⟨.inr (.inl ⟨rfl, by decide, rfl⟩), plain_all rfl, Nat.le_of_ble_eq_true rfl⟩
    cases List.mem_singleton.mp hc
    rw [t1, t2]; exact ⟨.inl ⟨rfl, Sg8.two (a := 195) (b := 169) (by decide) (by decide) (by decide) (by decide)⟩, plain_all rfl, Nat.le_of_ble_eq_true rfl⟩
  · rcases List.mem_cons.mp hc with rfl | hc
    · rw [t11, t12]; exact q63
    rcases List.mem_cons.mp hc with rfl | hc
    · rw [t9, t10]; exact q63
    cases List.mem_singleton.mp hc
    rw [t7, t8]; exact ⟨.inl ⟨rfl, Sg8.three (b := 128) (c := 162) (by decide) (by decide) (by decide) (by decide)⟩, plain_all rfl, Nat.le_of_ble_eq_true rfl⟩
theorem utxt_le {ch : List Nat} : ∀ {us : List (List Nat × Nat)}, (∀ u ∈ us, Ub ch u) → (utxt us).length ≤ 3 * us.length
  | [], _ => by simp [utxt]
  | u :: r, h => by
    have a := utxt_le fun x hx => h x (.tail _ hx)
    have b := (h u (.head _)).2.2
    simp only [utxt, List.flatMap_cons, List.length_append, List.length_cons] at a ⊢
    omega
/-- the last piece and those before -/
structure PcI (ch : List Nat) (lone : Bool) (ini : Pcs) (la : List (List Nat × Nat)) (r r' : Nat) : Prop where
  ub : ∀ pc ∈ ini ++ [la], ∀ u ∈ pc, Ub ch u
  li : ini.length + r ≤ 8
  lo : lone = true → ini = []
  tot : (ini ++ [la]).flatten.length + r' ≤ 8
theorem flat_len {α : Type} {l : List (List α)} {x : List α} (h : x ∈ l) : x.length ≤ l.flatten.length := by
  induction l with
  | nil => cases h
  | cons y r ih =>
    rw [List.flatten_cons, List.length_append]
    rcases List.mem_cons.mp h with rfl | h
    · omega
    · have := ih h; omega
theorem PcI.ok {ch : List Nat} {lone : Bool} {ini : Pcs} {la : List (List Nat × Nat)} (h : PcI ch lone ini la 0 0) (bey : Bool) (hb : bey = false → ∀ pc ∈ ini ++ [la], ∀ c ∈ utxt pc, c ≤ 127) : PcsOk ch lone bey (ini ++ [la]) := by
  refine ⟨by have := h.li; simp; omega, by simp, fun t => by rw [h.lo t]; rfl, fun pc hp u hu => (h.ub pc hp u hu).1, fun pc hp c hc => ?_, fun t pc hp u hu b hb' => hb t pc hp b (List.mem_flatMap.mpr ⟨u, hu, hb'⟩), fun pc hp => ?_, ?_⟩
  · obtain ⟨u, hu, hc⟩ := List.mem_flatMap.mp hc
    exact (h.ub pc hp u hu).2.1 c hc
  · have a := utxt_le (h.ub pc hp)
    have b := flat_len hp
    have := h.tot
    omega
  · have a := utxt_le (us := (ini ++ [la]).flatten) (ch := ch) fun u hu => by
      obtain ⟨pc, h1, h2⟩ := List.mem_flatten.mp hu
      exact h.ub pc h1 u h2
    have := h.tot
    omega

section
variable {G : Ctx} {L : Nat} {H : AHeap} {k : KV}
theorem for_filter {step : PV → Slots → List PV → AHeap → KC → Prop} {f : Nat → Bool} {K : KC}
    (hstep : ∀ c r acc H (k' : KC), acc.length ≤ 1000000 → (∀ r', k' r' (acc ++ (if f c then [PV.int (c : Int)] else [])) H) → step (.int (c : Int)) r acc H k') :
    ∀ (xs : List Nat) r acc H, acc.length + xs.length ≤ 1000000 → (∀ r', K r' (acc ++ (xs.filter f).map (fun (c : Nat) => PV.int c)) H) → XForC step none K (xs.map fun (c : Nat) => PV.int c) r acc H
  | [], r, acc, H, _, h => by have := h r; rw [List.filter_nil, List.map_nil, List.append_nil] at this; exact this
  | c :: xs, r, acc, H, z, h => by
    rw [List.length_cons] at z
    refine hstep c r acc H _ (by omega) fun r' => ⟨trivial, for_filter hstep xs _ _ _ (by rw [List.length_append]; split <;> simp only [List.length_cons, List.length_nil] <;> omega) fun r'' => ?_⟩
    have := h r''
    rw [List.filter_cons] at this
    cases hf : f c with
    | true => rw [hf, if_pos rfl, List.map_cons, List.append_cons] at this; exact this
    | false => rw [hf, if_neg Bool.false_ne_true] at this; rw [if_neg Bool.false_ne_true, List.append_nil]; exact this
theorem for_flat {step : PV → Slots → List PV → AHeap → KC → Prop} {g : List Nat → List PV} {src : Option (Addr × AObj)} {K : KC} {H : AHeap} (so : srcOk src H)
    (hstep : ∀ b r acc (k' : KC), b.length ≤ 1000 → acc.length ≤ 100000 → (∀ r', k' r' (acc ++ g b) H) → step (.bytes b) r acc H k') (hg : ∀ b, (g b).length ≤ b.length) :
    ∀ (xs : List (List Nat)) r acc, (∀ b ∈ xs, b.length ≤ 1000) → acc.length + 1000 * xs.length ≤ 100000 → (∀ r', K r' (acc ++ xs.flatMap g) H) → XForC step src K (xs.map PV.bytes) r acc H
  | [], r, acc, _, _, h => by have := h r; rw [List.flatMap_nil, List.append_nil] at this; exact this
  | b :: xs, r, acc, hb, z, h => by
    rw [List.length_cons] at z
    have bl := hb b (.head _)
    have := hg b
    refine hstep b r acc _ bl (by omega) fun r' => ⟨so, for_flat so hstep hg xs _ _ (fun x hx => hb x (.tail _ hx)) (by rw [List.length_append]; omega) fun r'' => ?_⟩
    have := h r''
    rw [List.flatMap_cons] at this
    rwa [List.append_assoc]

theorem law_6 {ρ : Slots} {k : KF} {p q Lq : Addr} {n : Nat} {lone : Bool} {told ch : List Nat} {ini : Pcs} {la : List (List Nat × Nat)} (hc : (told, ch) ∈ CHL) (I : PcI ch lone ini la 0 0)
    (hn : n ≤ 50000) (hp : Pot H p q n) (hpc : H Lq = some (.list (pcl (ini ++ [la])))) (n1 : Lq ≠ p) (n2 : Lq ≠ q)
    (m1 : ρ 1 = some (.ref p)) (m2 : ρ 2 = some (.str told)) (m3 : ρ 5 = some (.bool lone)) (m4 : ρ 6 = some (.ref Lq)) (mc : ρ 3 = some (.str ch))
    (hK : ∀ ρ H, k (.ret (.bool true)) ρ H) : XSs G 1 (b426.drop 6) ρ H k := by
  have C0 := I.ok true (fun t => nomatch t)
  have hp9 := C0.hp
  refine seqN 6 (fun ρ' H' => ∃ bey : Bool, PcsOk ch lone bey (ini ++ [la]) ∧ Pot H' p q n ∧ H' Lq = some (.list (pcl (ini ++ [la]))) ∧ ρ' = ρ.put 8 (.bool bey)) ?_ (fun k' hk' => by
    have ep : pcl (ini ++ [la]) = ((ini ++ [la]).map utxt).map PV.bytes := by rw [List.map_map]; rfl
    repeat' (first | infer_instance | fail)
    refine i_list hpc ?_
    rw [ep]
    refine for_flat (g := fun b => (b.filter fun c => decide (127 < c)).map fun (c : Nat) => PV.int c) (by rw [← ep]; exact hpc) ?_ (fun b => by rw [List.length_map]; exact List.length_filter_le _ _) _ _ _ ?_ ?_ ?_
    · intro b r acc k'' bl al hk''
      refine i_bytes (l := b) (by omega) ?_
      refine for_filter (f := fun c => decide (127 < c)) ?_ _ _ _ _ (by omega) hk''
      intro c r' acc' H' k3 al' hk3
      have := hk3 (r'.put 20 (.int c))
      refine br_dec (fun hq => ?_) (fun hq => ?_)
      · rw [if_pos (decide_eq_true (Int.ofNat_lt.mp hq))] at this
        exact And.intro (by omega) this
      · rw [if_neg (by rw [decide_eq_false (fun z => hq (Int.ofNat_lt.mpr z))]; decide), List.append_nil] at this
        exact this
    · intro b hb; obtain ⟨pc, hpc', rfl⟩ := List.mem_map.mp hb; have := C0.len pc hpc'; omega
    · rw [List.length_map, List.length_nil]; omega
    intro r'
    rw [List.nil_append]
    refine s_new fun LA hLA => ?_
    have hA1 : (H.set LA (.list (((ini ++ [la]).map utxt).flatMap fun b => (b.filter fun c => decide (127 < c)).map fun (c : Nat) => PV.int c))) LA = some (.list (((((ini ++ [la]).map utxt).flatMap fun b => (b.filter fun c => decide (127 < c)).map fun (c : Nat) => (c : Int))).map .int)) := by
      rw [AHeap.set_same, List.map_flatMap]; simp only [List.map_map]; rfl
    have nA := hp.new hLA
    have hp1 := hp.set (o := .list (((ini ++ [la]).map utxt).flatMap fun b => (b.filter fun c => decide (127 < c)).map fun (c : Nat) => PV.int c)) nA.1 nA.2
    have hpc1 : (H.set LA (.list (((ini ++ [la]).map utxt).flatMap fun b => (b.filter fun c => decide (127 < c)).map fun (c : Nat) => PV.int c))) Lq = some (.list (pcl (ini ++ [la]))) := by rw [AHeap.set_other (fun z => by rw [← z, hpc] at hLA; cases hLA)]; exact hpc
    generalize (H.set LA (.list (((ini ++ [la]).map utxt).flatMap fun b => (b.filter fun c => decide (127 < c)).map fun (c : Nat) => PV.int c))) = H1 at hA1 hp1 hpc1 ⊢
    generalize hns : (((ini ++ [la]).map utxt).flatMap fun b => (b.filter fun c => decide (127 < c)).map fun (c : Nat) => (c : Int)) = ns at hA1
    refine s_new fun LB hLB => ?_
    have nB := hp1.new hLB
    refine p_nelist (prog := G.prog) (w := G.w) (B := G.B) (x := LA) (y := LB) (by rw [AHeap.set_other (fun z => by rw [← z, hA1] at hLB; cases hLB)]; exact hA1) (AHeap.set_same _ _ _) ?_
    refine hk' _ _ ?_
    refine ⟨_, I.ok _ (fun t pc hpm c hc => ?_), hp1.set nB.1 nB.2, by rw [AHeap.set_other (fun z => by rw [← z, hpc1] at hLB; cases hLB)]; exact hpc1, rfl⟩
    have n0 : ns = [] := by
      cases ns with
      | nil => rfl
      | cons a b => simp at t
    rw [n0] at hns
    have := List.flatMap_eq_nil_iff.mp hns (utxt pc) (List.mem_map_of_mem hpm)
    rw [List.map_eq_nil_iff, List.filter_eq_nil_iff] at this
    have := this c hc
    simp at this; exact this)
  clear hp hpc C0
  rintro _ H ⟨bey, C, hp, hpc, rfl⟩
  exact law_7 (ρ := ρ.put 8 (.bool bey)) hc C (by omega) hp hpc n1 n2 m1 m2 m3 m4 rfl mc hK
end

-- f1

theorem pcl_last {ini : Pcs} {la : List (List Nat × Nat)} : (pcl (ini ++ [la])).getD ((pcl (ini ++ [la])).length - 1) .none = .bytes (utxt la) := by
  have e : pcl (ini ++ [la]) = pcl ini ++ [.bytes (utxt la)] := by simp [pcl]
  rw [e]
  simp [List.getD]
theorem pcl_set {ini : Pcs} {la : List (List Nat × Nat)} {u : List Nat × Nat} : (pcl (ini ++ [la])).set ((pcl (ini ++ [la])).length - 1) (.bytes (utxt la ++ u.1)) = pcl (ini ++ [la ++ [u]]) := by
  have e : pcl (ini ++ [la]) = pcl ini ++ [.bytes (utxt la)] := by simp [pcl]
  have e2 : pcl (ini ++ [la ++ [u]]) = pcl ini ++ [.bytes (utxt la ++ u.1)] := by simp [pcl, utxt]
  rw [e, e2]
  simp
theorem PcI.snoc {ch : List Nat} {lone : Bool} {ini : Pcs} {la : List (List Nat × Nat)} {r : Nat} {u : List Nat × Nat} (h : PcI ch lone ini la r (r + 1)) (hu : Ub ch u) : PcI ch lone ini (la ++ [u]) r r := by
  refine ⟨fun pc hp x hx => ?_, by have := h.li; omega, h.lo, ?_⟩
  · rcases List.mem_append.mp hp with hp | hp
    · exact h.ub pc (List.mem_append.mpr (.inl hp)) x hx
    · simp only [List.mem_singleton] at hp
      subst hp
      rcases List.mem_append.mp hx with hx | hx
      · exact h.ub la (by simp) x hx
      · simp only [List.mem_singleton] at hx; subst hx; exact hu
  · have := h.tot
    simp at this ⊢; omega

noncomputable def lawPiece : RSs := match b426.drop 5 with
  | .cons (.fr _ _ a) _ => a
  | _ => .nil
section
variable {G : Ctx} {L : Nat} {H : AHeap} {k : KV}
theorem pcl_snoc {ini : Pcs} : pcl (ini ++ [[]]) = pcl ini ++ [PV.bytes []] := by unfold pcl; rw [List.map_append]; rfl
theorem signs_lt {c : Nat} (h : c ∈ SIGNS) : c < 65536 := by
  rw [signs_eq] at h
  exact of_decide_eq_true (List.all_eq_true.mp (show ([97, 98, 32, 37, 50, 53, 39, 42, 101, 233, 8226] : List Nat).all (fun c => decide (c < 65536)) = true from rfl) c h)
theorem law_5 {ρ : Slots} {k : KF} {p q Lq : Addr} {n : Nat} {lone : Bool} {told ch sg : List Nat} (hc : (told, ch) ∈ CHL) (hch : ch ∈ CH3) (hs : ∀ c ∈ sg, c ∈ SIGNS) (hsl : sg.length ≤ 8)
    (hn : n ≤ 40000) (hp : Pot H p q n) (hpc : H Lq = some (.list [.bytes []])) (n1 : Lq ≠ p) (n2 : Lq ≠ q)
    (m1 : ρ 1 = some (.ref p)) (m2 : ρ 2 = some (.str told)) (m3 : ρ 5 = some (.bool lone)) (m4 : ρ 6 = some (.ref Lq)) (mc : ρ 3 = some (.str ch)) (mt : ρ 4 = some (.str sg))
    (hK : ∀ ρ H, k (.ret (.bool true)) ρ H) : XSs G 1 (b426.drop 5) ρ H k := by
  repeat' (first | infer_instance | fail)
  refine i_str ⟨by omega, fun c hc => Nat.lt_of_lt_of_le (signs_lt (hs c hc)) (Nat.le_of_ble_eq_true rfl)⟩ ?_
  refine for_gen (fun rest ρ' H' => ∃ (r : List Nat) (ini : Pcs) (la : List (List Nat × Nat)) (n' : Nat), rest = r.map (fun c => PV.str [c]) ∧ (∀ c ∈ r, c ∈ SIGNS) ∧ PcI ch lone ini la r.length r.length ∧ n' + r.length ≤ n + 8 ∧ Pot H' p q n' ∧ H' Lq = some (.list (pcl (ini ++ [la]))) ∧
      ρ' 1 = some (.ref p) ∧ ρ' 2 = some (.str told) ∧ ρ' 5 = some (.bool lone) ∧ ρ' 6 = some (.ref Lq) ∧ ρ' 3 = some (.str ch)) ?_ ?_ _ _ _
    ⟨sg, [], [], n, rfl, hs, ⟨fun pc hp u hu => (by rw [List.mem_singleton.mp hp] at hu; cases hu), by rw [List.length_nil, Nat.zero_add]; exact hsl, fun _ => rfl, by show 0 + sg.length ≤ 8; omega⟩, by omega, hp, hpc, m1, m2, m3, m4, mc⟩
  · rintro ρ' H' ⟨r, ini, la, n', hr, hsr, I, hn', hp', hpc', a1, a2, a3, a4, a5⟩
    cases r with
    | cons => cases hr
    | nil => exact law_6 hc I (by rw [List.length_nil] at hn'; omega) hp' hpc' n1 n2 a1 a2 a3 a4 a5 hK
  · rintro x xs ρ' H' ⟨r, ini, la, n', hr, hsr, I, hn', hp', hpc', a1, a2, a3, a4, a5⟩ k' hk'
    cases r with
    | nil => cases hr
    | cons c r =>
      rw [List.map_cons, List.cons.injEq] at hr
      obtain ⟨rfl, rfl⟩ := hr
      rw [List.length_cons] at I hn'
      refine (?_ : XSs G 1 (lawPiece.drop 0) (ρ'.put 7 (.str [c])) H' k')
      refine seqN 0 (fun ρ'' H'' => ∃ (ini : Pcs) (la : List (List Nat × Nat)), PcI ch lone ini la r.length (r.length + 1) ∧ Pot H'' p q (n' + 1) ∧ H'' Lq = some (.list (pcl (ini ++ [la]))) ∧ ρ'' = ρ'.put 7 (.str [c])) ?_ (fun k2 hk2 => by
        clear hk'
        have pl : (pcl (ini ++ [la])).length ≤ 9 := by have := I.li; unfold pcl; rw [List.length_map, List.length_append, List.length_cons, List.length_nil]; omega
        cases lone with
        | true =>
          have res := hk2 _ _ ⟨ini, la, ⟨I.ub, by have := I.li; omega, I.lo, I.tot⟩, hp'.mono (Nat.le_succ _), hpc', rfl⟩
          repeat' (first | infer_instance | fail)
          exact res
        | false =>
          repeat' (first | infer_instance | fail)
          refine c_draw (by omega) (by decide) hp' fun r2 H2 r0 r1 P2 ch2 => ?_
          have hpc2 : H2 Lq = some (.list (pcl (ini ++ [la]))) := by rw [ch2 _ n1 n2]; exact hpc'
          repeat' (first | infer_instance | fail)
          · refine x_append hpc2 (by omega) ?_
            refine hk2 _ _ ?_
            refine ⟨ini ++ [la], [], ⟨fun pc hpm u hu => ?_, by have := I.li; rw [List.length_append, List.length_cons, List.length_nil]; omega, (fun t => nomatch t), by have := I.tot; rw [List.flatten_append, List.flatten_cons, List.flatten_nil, List.append_nil, List.append_nil]; omega⟩, P2.set n1 n2, ?_, rfl⟩
            · rcases List.mem_append.mp hpm with h | h
              · exact I.ub pc h u hu
              · rw [List.mem_singleton.mp h] at hu; cases hu
            · rw [AHeap.set_same, pcl_snoc]
          · exact hk2 _ _ ⟨ini, la, ⟨I.ub, by have := I.li; omega, I.lo, I.tot⟩, P2, hpc2, rfl⟩)
      clear I hp' hpc'
      rintro _ H' ⟨ini, la, I, hp', hpc', rfl⟩
      have pl : (pcl (ini ++ [la])).length ≤ 10 ∧ 0 < (pcl (ini ++ [la])).length := by have := I.li; unfold pcl; rw [List.length_map, List.length_append, List.length_cons, List.length_nil]; omega
      have cS := hsr c (.head _)
      have uU := sign_ub hch cS
      have ul : (encSign ch c).length ≤ 3 := uU.2.2
      have lal : (utxt la).length ≤ 24 := by
        have lm : la ∈ ini ++ [la] := List.mem_append_right _ (.head _)
        have h1 := utxt_le (I.ub la lm)
        have h2 := flat_len lm
        have := I.tot
        omega
      have a4' : (ρ'.put 7 (.str [c])) 6 = some (.ref Lq) := a4
      have a5' : (ρ'.put 7 (.str [c])) 3 = some (.str ch) := a5
      repeat' (first | infer_instance | fail)
      refine p_llast hpc' ⟨by omega, pl.2⟩ ?_
      rw [pcl_last]
      repeat' (first | infer_instance | fail)
      refine c_sign_octets (signs_lt cS) ?_
      refine p_cat (by omega) ?_
      repeat' (first | infer_instance | fail)
      refine p_setlast hpc' ⟨by omega, pl.2⟩ ?_
      rw [pcl_set (u := (encSign ch c, decSign ch c))]
      refine hk' .next _ _ ?_
      exact ⟨trivial, r, ini, la ++ [(encSign ch c, decSign ch c)], n' + 1, rfl, fun x hx => hsr x (.tail _ hx), I.snoc uU, by omega, hp'.set n1 n2, AHeap.set_same _ _ _, a1, a2, a3, a4, a5⟩

theorem law_0 {k : KF} {xs : List Int} (zx : xs.length ≤ 63) {ρ : Slots} (ms : ρ 0 = some (.flist (xs.map .int)))
    (hK : ∀ ρ H, k (.ret (.bool true)) ρ H) : XSs G 1 (b426.drop 0) ρ H k := by
  refine seqN 0 (fun ρ' H' => ∃ p q, Pot H' p q 0 ∧ ρ' = ρ.put 1 (.ref p)) ?_ (fun k' hk' => by
    repeat' (first | infer_instance | fail)
    refine c_law_pot zx fun p q H' P' _ _ _ => ?_
    refine hk' _ _ ?_
    exact ⟨p, q, P', rfl⟩)
  rintro _ H ⟨p, q, hp, rfl⟩
  -- the charset
  refine seqN 1 (fun ρ' H' => ∃ told ch, (told, ch) ∈ CHL ∧ ch ∈ CH3 ∧ Pot H' p q 1 ∧ ρ' 1 = some (.ref p) ∧ ρ' 2 = some (.str told) ∧ ρ' 3 = some (.str ch)) ?_ (fun k' hk' => by
    refine c_charsets fun L hL => ?_
    have nL := hp.new hL
    repeat' (first | infer_instance | fail)
    refine c_draw (by omega) (by decide) (hp.set nL.1 nL.2) fun r H2 r0 r1 P2 ch2 => ?_
    have hL2 : H2 L = some (.list CHSETS) := by rw [ch2 _ nL.1 nL.2]; exact AHeap.set_same _ _ _
    obtain ⟨told, ch, e, h1, h2⟩ : ∃ told ch : List Nat, CHSETS.getD r.toNat .none = .tup [.str told, .str ch] ∧ (told, ch) ∈ CHL ∧ ch ∈ CH3 := by
      have : r = 0 ∨ r = 1 ∨ r = 2 ∨ r = 3 ∨ r = 4 ∨ r = 5 := by omega
      rcases this with rfl | rfl | rfl | rfl | rfl | rfl
      · exact ⟨_, _, rfl, .head _, .tail _ (.tail _ (.head _))⟩
      · exact ⟨_, _, rfl, .tail _ (.head _), .tail _ (.tail _ (.head _))⟩
      · exact ⟨_, _, rfl, .tail _ (.tail _ (.head _)), .tail _ (.head _)⟩
      · exact ⟨_, _, rfl, .tail _ (.tail _ (.tail _ (.head _))), .head _⟩
      · exact ⟨_, _, rfl, .tail _ (.tail _ (.tail _ (.tail _ (.head _)))), .tail _ (.tail _ (.head _))⟩
      · exact ⟨_, _, rfl, .tail _ (.tail _ (.tail _ (.tail _ (.tail _ (.head _))))), .tail _ (.tail _ (.head _))⟩
    refine p_litem hL2 ⟨Nat.le_of_ble_eq_true rfl, r0, r1⟩ ?_
    rw [e]
    refine hk' _ _ ?_
    exact ⟨told, ch, h1, h2, P2, rfl, rfl, rfl⟩)
  clear hp ms
  rintro ρ H ⟨told, ch, hc, hch, hp, b1, b2, b3⟩
  -- the text
  refine seqN 2 (fun ρ' H' => ∃ sg : List Nat, (∀ c ∈ sg, c ∈ SIGNS) ∧ sg.length ≤ 8 ∧ Pot H' p q 100 ∧ ρ' = ρ.put 4 (.str sg)) ?_ (fun k' hk' => by
    repeat' (first | infer_instance | fail)
    refine c_draw (by omega) (by decide) hp fun r H2 r0 r1 P2 ch2 => ?_
    repeat' (first | infer_instance | fail)
    refine i_rng (a := 0) (b := r) (xs := (List.range r.toNat).map fun (i : Nat) => PV.int i) (by rw [Int.sub_zero]; exact List.map_congr_left fun i _ => by rw [Int.zero_add]) (by omega) ?_
    have b1' : (ρ.clr 19) 1 = some (.ref p) := b1
    refine comp_gen (fun rest acc r H' => r 1 = some (.ref p) ∧ ∃ sg : List Nat, acc = sg.map (fun c => PV.str [c]) ∧ (∀ c ∈ sg, c ∈ SIGNS) ∧ sg.length + rest.length ≤ 8 ∧ Pot H' p q (2 + sg.length)) ?_ ?_ _ _ _ _ ⟨b1', [], rfl, (fun _ h => nomatch h), by rw [List.length_map, List.length_range, List.length_nil]; omega, P2⟩
    · rintro x xs r acc H' ⟨hpot, sg, rfl, hs, hsl, hp'⟩ k2 hk2
      have hpot' : (r.put 19 x) 1 = some (.ref p) := hpot
      rw [List.length_cons] at hsl
      refine c_signs ?_
      repeat' (first | infer_instance | fail)
      refine c_signs ?_
      have sl : SIGNS.length = 11 := by rw [signs_eq]; rfl
      refine x_lens (by omega) ?_
      rw [sl]
      refine c_draw (by omega) (by decide) hp' fun r' H3 r0' r1' P3 ch3 => ?_
      have hlt : r'.toNat < SIGNS.length := by omega
      refine p_sitem ⟨by omega, r0', by omega⟩ ?_
      refine And.intro (by rw [List.length_map]; omega) (hk2 _ _ _ trivial ⟨hpot, sg ++ [SIGNS.getD r'.toNat 0], by rw [List.map_append]; rfl, fun c hc => ?_, by rw [List.length_append, List.length_cons, List.length_nil]; omega, by rw [List.length_append]; exact P3⟩)
      rcases List.mem_append.mp hc with hc | hc
      · exact hs c hc
      · rw [List.mem_singleton.mp hc, getD_lt hlt]; exact List.getElem_mem hlt
    · rintro r acc H' ⟨_, sg, rfl, hs, hsl, hp'⟩
      refine s_new fun M hL => ?_
      have nL := hp'.new hL
      rw [List.length_nil] at hsl
      repeat' (first | infer_instance | fail)
      refine join_ones (l := sg) (by rw [← strsOf_map, List.map_map]; rfl) M (by omega) (by rw [List.length_map]; omega) (AHeap.set_same _ _ _) ?_
      refine hk' _ _ ?_
      exact ⟨sg, hs, by omega, (hp'.mono (by omega)).set nL.1 nL.2, rfl⟩)
  clear hp
  rintro _ H ⟨sg, hs, hsl, hp, rfl⟩
  refine seqN 3 (fun ρ' H' => ∃ lone : Bool, Pot H' p q 101 ∧ ρ' = (ρ.put 4 (.str sg)).put 5 (.bool lone)) ?_ (fun k' hk' => by
    repeat' (first | infer_instance | fail)
    refine c_draw (by omega) (by decide) hp fun r H2 r0 r1 P2 ch2 => ?_
    refine hk' _ _ ?_
    exact ⟨_, P2, rfl⟩)
  clear hp
  rintro _ H ⟨lone, hp, rfl⟩
  refine seqN 4 (fun ρ' H' => ∃ Lq, Pot H' p q 101 ∧ H' Lq = some (.list [.bytes []]) ∧ Lq ≠ p ∧ Lq ≠ q ∧ ρ' = ((ρ.put 4 (.str sg)).put 5 (.bool lone)).put 6 (.ref Lq)) ?_ (fun k' hk' => by
    refine s_new fun Lq hLq => ?_
    have nn := hp.new hLq
    refine hk' _ _ ?_
    exact ⟨Lq, hp.set nn.1 nn.2, AHeap.set_same _ _ _, nn.1, nn.2, rfl⟩)
  clear hp
  rintro _ H ⟨Lq, hp, hpc, n1, n2, rfl⟩
  exact law_5 (ρ := ((ρ.put 4 (.str sg)).put 5 (.bool lone)).put 6 (.ref Lq)) (lone := lone) hc hch hs hsl (by omega) hp hpc n1 n2 b1 b2 rfl rfl b3 rfl hK
end

end
-- f2

noncomputable def tokOf (v : Value) : Tok := Value.casesOn v 0 0 0 (fun _ => 0) (fun _ t => t) (fun _ t => t) (fun _ t => t) (fun _ t => t) (fun _ => 0) (fun _ => 0) fun _ => 0
noncomputable def arrOf (l : List Nat) : Array UInt8 := (l.map UInt8.ofNat).toArray
noncomputable def chkV (p : PV) (v : Value) : Bool := match p with
  | .ref a => decide (v = .ref a)
  | .int i => decide (v = .int i (tokOf v))
  | .str l => decide (v = .str ⟨l.toArray⟩ (tokOf v))
  | .bytes l => decide (v = .bytes (arrOf l) (tokOf v)) && decide ((arrOf l).toList.map (·.toNat) = l)
  | .bi id => decide (v = .builtin id)
  | .ty n => decide (v = .type n)
  | _ => false
theorem chkV_V {B h : Heap} {p : PV} {v : Value} (e : chkV p v = true) : V B h p v := by
  cases p with
  | ref a => exact of_decide_eq_true (p := v = .ref a) e
  | bi a => exact of_decide_eq_true (p := v = .builtin a) e
  | ty a => exact of_decide_eq_true (p := v = .type a) e
  | int i => exact V_int.mpr ⟨_, of_decide_eq_true e⟩
  | str l => exact V_str.mpr ⟨_, of_decide_eq_true e⟩
  | bytes l =>
    obtain ⟨a, b⟩ := Bool.and_eq_true_iff.mp e
    exact V_bytes.mpr ⟨_, _, of_decide_eq_true a, of_decide_eq_true b⟩
  | _ => exact (Bool.false_ne_true e).elim
noncomputable def gEs (P : Params) : Array DictEntry := match (o3v4 P).data with
  | .dict es _ => es
  | _ => #[]
noncomputable def chkG (P : Params) (e : Str × PV) : Bool := match nsFind (gEs P) e.1 with
  | some u => chkV e.2 u
  | none => !(e.1 == ("__name__" : Str)) && (match bootBuiltins e.1 with | some u => chkV e.2 u | none => false)
noncomputable def isTupP : PV → Bool
  | .tup _ => true
  | _ => false
theorem gl_chk (P : Params) : (glL.all fun e => isTupP e.2 || chkG P e) = true := by kernel_rfl
theorem gl_tups : (glL.all fun e => !isTupP e.2 || (e.1 == Str.ofString "CHARSETS" || e.1 == Str.ofString "NEVER_ESCAPED" || e.1 == Str.ofString "WHITE")) = true := by kernel_rfl
theorem lookup_mem2 {x : Str} {v : PV} : ∀ {L : List (Str × PV)}, L.lookup x = some v → (x, v) ∈ L
  | [], h => by cases h
  | (y, u) :: r, h => by
    rw [List.lookup_cons] at h
    cases e : x == y with
    | true => rw [e] at h; cases h; rw [beq_iff_eq.mp e]; exact .head _
    | false => rw [e] at h; exact .tail _ (lookup_mem2 h)
theorem tup_in {P : Params} {h : Heap} (X : (K0 P).In h) {a : Addr} {vs : Array Value} {n : Nat} (e : (K0 P).lookup a = some { cls := .type "tuple", data := .seq vs n }) : IsTup h a vs := ⟨_, X _ _ e, rfl, n, rfl⟩
theorem g_CHARSETS : gl0 (Str.ofString "CHARSETS") = some (.tup [.str (cs "us-ascii"), .str (cs "iso-8859-1"), .str (cs "utf-8")]) := by kernel_rfl
theorem g_NEVER_ESCAPED : gl0 (Str.ofString "NEVER_ESCAPED") = some (.tup [.int 0, .int 10, .int 13]) := by kernel_rfl
theorem g_WHITE : gl0 (Str.ofString "WHITE") = some (.tup [.int 9, .int 10, .int 13, .int 32]) := by kernel_rfl
theorem gl_ok {P : Params} {B : Heap} {mg : Str → Option Value} (X : (K0 P).In B) (G : B.Ns mainGlobals mg) :
    ∀ x v, gl0 x = some v → (∃ u, mg x = some u ∧ V B B v u) ∨ (mg x = none ∧ x ≠ ("__name__" : Str) ∧ ∃ u, bootBuiltins x = some u ∧ V B B v u) := by
  obtain ⟨o, es, ep, ho, hd, _, hm⟩ := G
  have h3 : B.get? 3 = some (o3v4 P) := X 3 _ (by kernel_rfl)
  rw [show mainGlobals = 3 from rfl, h3] at ho
  cases ho
  have ees : es = gEs P := by unfold gEs; rw [hd]
  subst ees
  intro x v e
  have mem := lookup_mem2 e
  have c := List.all_eq_true.mp (gl_chk P) _ mem
  rcases Bool.or_eq_true_iff.mp c with c | c
  · have t := List.all_eq_true.mp gl_tups _ mem
    rw [c] at t
    simp only [Bool.not_true, Bool.false_or, Bool.or_eq_true, beq_iff_eq] at t
    left
    rcases t with (t | t) | t
    · subst t
      have : gl0 (Str.ofString "CHARSETS") = some v := e
      rw [g_CHARSETS] at this
      cases this
      refine ⟨.ref 177, by rw [← hm]; kernel_rfl, V_tup.mpr ⟨177, [vs "us-ascii" 403, vs "iso-8859-1" 405, vs "utf-8" 407], rfl, tup_in X (n := 0) (by kernel_rfl), ?_⟩⟩
      exact VL_cons.mpr ⟨_, _, rfl, chkV_V (by kernel_rfl), VL_cons.mpr ⟨_, _, rfl, chkV_V (by kernel_rfl), VL_cons.mpr ⟨_, _, rfl, chkV_V (by kernel_rfl), VL_nil.mpr rfl⟩⟩⟩
    · subst t
      have : gl0 (Str.ofString "NEVER_ESCAPED") = some v := e
      rw [g_NEVER_ESCAPED] at this
      cases this
      refine ⟨.ref 241, by rw [← hm]; kernel_rfl, V_tup.mpr ⟨241, [.int 0 500, .int 10 501, .int 13 502], rfl, tup_in X (n := 0) (by kernel_rfl), ?_⟩⟩
      exact VL_cons.mpr ⟨_, _, rfl, chkV_V (by kernel_rfl), VL_cons.mpr ⟨_, _, rfl, chkV_V (by kernel_rfl), VL_cons.mpr ⟨_, _, rfl, chkV_V (by kernel_rfl), VL_nil.mpr rfl⟩⟩⟩
    · subst t
      have : gl0 (Str.ofString "WHITE") = some v := e
      rw [g_WHITE] at this
      cases this
      refine ⟨.ref 270, by rw [← hm]; kernel_rfl, V_tup.mpr ⟨270, [.int 9 550, .int 10 551, .int 13 552, .int 32 553], rfl, tup_in X (n := 0) (by kernel_rfl), ?_⟩⟩
      exact VL_cons.mpr ⟨_, _, rfl, chkV_V (by kernel_rfl), VL_cons.mpr ⟨_, _, rfl, chkV_V (by kernel_rfl), VL_cons.mpr ⟨_, _, rfl, chkV_V (by kernel_rfl), VL_cons.mpr ⟨_, _, rfl, chkV_V (by kernel_rfl), VL_nil.mpr rfl⟩⟩⟩⟩
  · unfold chkG at c
    dsimp only at c
    rw [← hm x]
    split at c
    · rename_i u hu
      exact .inl ⟨u, hu, chkV_V c⟩
    · rename_i hu
      obtain ⟨c1, c2⟩ := Bool.and_eq_true_iff.mp c
      split at c2
      · rename_i u hb
        exact .inr ⟨hu, by simpa using c1, u, hb, chkV_V c2⟩
      · cases c2

theorem cur_ok (P : Params) : CurOk (K0 P) := by
  refine ⟨fun name h => ?_, by kernel_rfl, by kernel_rfl, by kernel_rfl, fun name f h => ?_⟩
  · simp only [curAttrs, List.mem_cons, List.not_mem_nil, or_false] at h
    rcases h with rfl | rfl | rfl
    · exact ⟨by kernel_rfl, by kernel_rfl, by kernel_rfl⟩
    · exact ⟨by kernel_rfl, by kernel_rfl, by kernel_rfl⟩
    · exact ⟨by kernel_rfl, by kernel_rfl, by kernel_rfl⟩
  · have : ∀ {L : List (Str × Addr)}, L.lookup name = some f → (name, f) ∈ L := by
      intro L
      induction L with
      | nil => intro h; cases h
      | cons p r ih =>
        obtain ⟨y, u⟩ := p
        intro h
        rw [List.lookup_cons] at h
        cases e : name == y with
        | true => rw [e] at h; cases h; rw [beq_iff_eq.mp e]; exact .head _
        | false => rw [e] at h; exact .tail _ (ih h)
    have m := this h
    simp only [curMeths, List.mem_cons, List.not_mem_nil, or_false, Prod.mk.injEq] at m
    rcases m with ⟨rfl, rfl⟩ | ⟨rfl, rfl⟩ | ⟨rfl, rfl⟩
    · exact ⟨by kernel_rfl, by kernel_rfl, by kernel_rfl⟩
    · exact ⟨by kernel_rfl, by kernel_rfl, by kernel_rfl⟩
    · exact ⟨by kernel_rfl, by kernel_rfl, by kernel_rfl⟩

theorem cx_ok {P : Params} {B : Heap} {mg mb : Str → Option Value} {q : Program} {loose : List Str} {mean : ExcName → Option Value} (X : (K0 P).In B) (T : Top q loose mean mg mb B) : Cx (K0 P) B mg mb gl0 :=
  ⟨⟨X, T.g, T.b, T.builtins, T.nolimit, ⟨boot_o_1 P, X 1 _ (by kernel_rfl)⟩⟩, cur_ok P, gl_ok X T.g⟩

theorem ints_VL {B h : Heap} : ∀ {vs : List Value} {ns : List Int}, IntsAre vs ns → VL B h (ns.map .int) vs
  | _, _, .nil => VL_nil.mpr rfl
  | _, _, .cons i t r => VL_cons.mpr ⟨_, _, rfl, V_int.mpr ⟨_, rfl⟩, ints_VL r⟩
theorem scope_cells : (d0.scope.names.all fun y => y.2 != .cell || y.1 == Str.ofString "pot") = true := by kernel_rfl
theorem scope_script : (d0.scope.names.lookup (Str.ofString "script") == some .local) = true := by kernel_rfl
theorem scope_from (n : Nat) : cellsFrom n d0.scope.names [] = [(Str.ofString "pot", n)] := by kernel_rfl
theorem law_binds (pm cd doc v : Value) : bindArgs (Calls.docDef d0.name d0.params d0.body d0.scope pm cd doc) ⟨[v], []⟩ = pure [(Str.ofString "script", v)] := by kernel_rfl
theorem law_inj : envOk (slots lawS) = true := by kernel_rfl
theorem law_res : resF lawS lawB = b426 := by kernel_rfl
theorem law_chk : chk (slots lawS) [Str.ofString "script"] 0 = true := by kernel_rfl
theorem walk0 : WalkO q0 loose0 (XL q0 []) hk0.says lw.row.toRowW d0 [] fun f vs => PySem.call f vs := by
  intro w s₀ s₁ mg mb G Y a o pm cd doc dV kV ho hd hcd hD hmg hg args vals as hpre hlay hrd hwl hlo
  have KX : (K0 w.params).In s₁.heap := kIn_of Y
  have T := G.T
  wrow_args hpre hlay hrd hwl hlo
  rename_i ns h1 h2 h3 h4 h5 as1 as2 x vs as3 hL hR hW hR' hI hRA hlen htrue
  have zx : ns.length ≤ 63 := by omega
  have eV : dV = .none := Dflts.none hD (by kernel_rfl)
  have eK : kV = .none := by rcases hD.kw with ⟨_, e⟩ | ⟨e, _⟩; exact e; exact absurd rfl e
  subst eV eK
  have cx := cx_ok KX T
  refine enter_call ?_
  refine call_cells_ret (name := d0.name) (params := d0.params) (body := d0.body) (scope := d0.scope) (pm := pm) (cd := cd) (doc := doc) (binds := [(Str.ofString "script", .ref x)]) (by decide +kernel) ho hd T.nolimit hcd (law_binds _ _ _ _) ?_ ?_ (by kernel_rfl) (by kernel_rfl) (by kernel_rfl)
  · intro y hy
    rw [List.mem_singleton] at hy
    subst hy
    exact .inl (beq_iff_eq.mp scope_script)
  intro h₁ tk F X
  have keep : ∀ b o, s₁.heap.get? b = some o → h₁.get? b = some o := F.keep
  have ki : KeepImm s₁.heap h₁ := fun b o e _ => keep b o e
  have ek : ∀ y, (envOfC d0.name d0.scope s₁.heap.objs.size a cd).kindOf y = d0.scope.names.lookup y := fun _ => rfl
  have ec : (envOfC d0.name d0.scope s₁.heap.objs.size a cd).cells = [(Str.ofString "pot", s₁.heap.objs.size + 1)] := scope_from _
  have isPot : ∀ y, d0.scope.names.lookup y = some .cell → y = Str.ofString "pot" := fun y e => by
    have := List.all_eq_true.mp scope_cells _ (lookup_mem e)
    simpa using this
  have potC : ∀ y c, (envOfC d0.name d0.scope s₁.heap.objs.size a cd).cells.lookup y = some c → y = Str.ofString "pot" ∧ c = s₁.heap.objs.size + 1 := fun y c e => by
    rw [ec, List.lookup_cons] at e
    cases q : y == Str.ofString "pot" with
    | true => rw [q] at e; cases e; exact ⟨beq_iff_eq.mp q, rfl⟩
    | false => rw [q] at e; cases e
  have sc : d0.scope.names.lookup (Str.ofString "script") = some .local := beq_iff_eq.mp scope_script
  have m0 : ∀ y pv, mOf (slots lawS) (argS [.flist (ns.map .int)] 0) y = some pv → y = Str.ofString "script" ∧ pv = .flist (ns.map .int) := fun y pv e => by
    have e : Loc.ofL [Str.ofString "script"] [.flist (ns.map .int)] y = some pv := by
      cases q : (slots lawS).lookup y with
      | none => rw [mOf_none q] at e; cases e
      | some j => rw [mOf_some q] at e; exact argS_of law_inj q rfl law_chk e
    change (Loc.put Loc.nil (Str.ofString "script") (.flist (ns.map .int))) y = some pv at e
    unfold Loc.put at e
    split at e
    · rename_i q; cases e; exact ⟨q, rfl⟩
    · cases e
  have W : WF lw.row.prog w s₁.heap (fun _ => none) h₁ := ⟨keep, (fun _ _ e => by cases e), (fun _ _ e => by cases e)⟩
  have Fm0 : Fm s₁.heap (envOfC d0.name d0.scope s₁.heap.objs.size a cd) (mOf (slots lawS) (argS [.flist (ns.map .int)] 0)) (fun _ => none) h₁ := by
    refine ⟨⟨_, F.ns, fun y pv e q => ?_⟩, fun y pv e => ?_, fun y pv e q => ?_, fun y q => ?_, fun y z c e e' => ?_, rfl, get?_new _, fun y c e => ?_⟩
    · obtain ⟨rfl, rfl⟩ := m0 y pv e
      refine ⟨.ref x, ?_, V_flist.mpr ⟨x, vs, rfl, hL, (ints_VL hI).mono ki⟩⟩
      unfold bindL
      rw [if_pos (show (envOfC d0.name d0.scope s₁.heap.objs.size a cd).kindOf (Str.ofString "script") = some .local from sc)]
      unfold bindL
      exact if_pos rfl
    · obtain ⟨rfl, rfl⟩ := m0 y pv e
      exact .inl sc
    · obtain ⟨rfl, rfl⟩ := m0 y pv e
      exact absurd sc q
    · have yp := isPot y q
      subst yp
      have el : (envOfC d0.name d0.scope s₁.heap.objs.size a cd).cells.lookup (Str.ofString "pot") = some (s₁.heap.objs.size + 1) := by rw [ec]; simp
      exact ⟨_, _, el, X.cell _ _ el⟩
    · rw [(potC y c e).1, (potC z c e').1]
    · rw [(potC y c e).2]
      cases q : s₁.heap.get? (s₁.heap.objs.size + 1) with
      | none => rfl
      | some o => exact absurd (Heap.lt_size q) (Nat.not_lt.mpr (Nat.le_succ _))
  have hA : AOk 1 (callerA.deeper (envOfC d0.name d0.scope s₁.heap.objs.size a cd)) := ⟨rfl, by show callerA.depth + 1 ≤ _; decide +kernel, by show callerA.units + 3 ≤ _; decide +kernel⟩
  have N : EnvOk lawS (envOfC d0.name d0.scope s₁.heap.objs.size a cd) := ⟨rfl, by kernel_rfl, rfl, rfl⟩
  let G : Ctx := ⟨lw.row.prog, w, s₁.heap, mg, mb, cx⟩
  have so : SOs G 1 lawS (slots lawS) lawB b426 := law_res ▸ (ress_ok (G := G) (L := 1) law_inj _ _).2 lawB
  refine so (s := { s₁ with heap := h₁, toks := tk }) (k := fun fl _ _ => fl = .ret (.bool true)) ⟨by decide, hA, N, Fm0, W, law_inj⟩ (law_0 (G := G) zx rfl fun _ _ => rfl) ?_
  intro fl f m' H' s' sm st W' F' hf hk
  subst hk
  obtain ⟨u, rfl, hu⟩ := hf
  cases V_bool.mp hu
  have own : ∀ b o, s₁.heap.get? b = some o → ¬ Own (envOfC d0.name d0.scope s₁.heap.objs.size a cd) b := by
    rintro b o e (rfl | ⟨y, _, q⟩)
    · exact absurd (Heap.lt_size e) (Nat.lt_irrefl _)
    · rw [(potC y b q).2] at e
      exact absurd (Heap.lt_size e) (Nat.not_lt.mpr (Nat.le_succ _))
  have K : ∀ b o, s₁.heap.get? b = some o → s'.heap.get? b = some o := fun b o e => (st.keep b o (keep b o e) rfl (own b o e)).1
  refine ⟨.inl ⟨_, .bool true, [], rfl, ?_, .bool true, ?_, ?_⟩, .of_keep K, sm.2.2, ?_⟩
  · exact fun _ => rfl
  · wrow_post
  · exact fun _ => ⟨List.nodup_nil, fun _ h => by cases h⟩
  · rw [sm.1]
    show AllBare s₁.gens
    rw [hg]; exact .empty

end Mine
theorem PySem.Challenge.cw_no0381_01_holds : PySem.Challenge.rw_no0381_01.Holds := by
  exact Mine.head0 Mine.walk0
